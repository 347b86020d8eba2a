import PyProof.Rows.All
import Wide.All
import OpenK.AllK
import Wide.FinOn
import HandS.ForMost
import HandS.ForExc
import HandS.IsInst
import HandS.Wide
import HandS.Style
import HandS.EndBits
import HandS.ExcInit
import HandS.ExcField
import HandS.ExcIs
import HandS.Walk
import HandS.Replace
import HandS.SortInts
import HandS.SortRule
import HandS.Rev
import KE.KExcIs
import HandS.Deep
import HandS.TupAny
import HandS.SetKeys
import HandS.Conv
import HandS.RaiseMore
import HandS.RevRange
import HandS.TryOnly
import HandS.TryMany
import HandS.SuiteRaise
import HandS.RaiseFrom
import HandS.ExcInitHot
import HandS.TupMul
import HandS.Strs
import HandS.TupLen
import HandS.More
import HandS.Replace
import HandS.Text
import HandS.StrMore
import HandS.Defaults
import KE.GoesMore
import KE.GoesEnum
import PySem.Challenge.RW_leastlore_k07_disks_refused
set_option Elab.async false
set_option linter.all false
set_option maxRecDepth 100000
set_option maxHeartbeats 4000000
set_option hygiene false in
local macro_rules | `(tactic| fail "sn") => `(tactic| (first | with_reducible exact sn0 | with_reducible exact sn1 | with_reducible exact sn2 | with_reducible exact sn3 | with_reducible exact sn4 | with_reducible exact sn5 | with_reducible exact sn6 | with_reducible exact sn7 | with_reducible exact sn8 | with_reducible exact sn9 | with_reducible exact sn10 | with_reducible exact sn11 | with_reducible exact sn12 | with_reducible exact sn13 | with_reducible exact sn14 | with_reducible exact sn15 | with_reducible exact sn16 | with_reducible exact sn17 | with_reducible exact sn18 | with_reducible exact sn19 | with_reducible exact sn20 | with_reducible exact sn21 | with_reducible exact sn22 | with_reducible exact sn23 | with_reducible exact sn24 | with_reducible exact sn25 | with_reducible exact sn26 | with_reducible exact sn27 | (simp only [wipeA, List.set_cons_succ, List.set_cons_zero]; done) | (simp only [wipeA, List.set_cons_succ, List.set_cons_zero]; exact rfl)))
set_option hygiene false in
local macro_rules | `(tactic| fail "sn1") => `(tactic| (first | (intro _; (fail "sn")) | fail))
set_option hygiene false in
local macro_rules | `(tactic| fail "sa") => `(tactic| (first | (· (repeat (first | exact sa_0 | apply sa_cons | apply sa_nil))) | fail))
set_option hygiene false in
local macro_rules | `(tactic| fail "sgb") => `(tactic| (first | (· (repeat' (first | with_reducible assumption | with_reducible refine sg_take ?_ | with_reducible refine sg_drop ?_ | with_reducible refine sg_appB ?_ ?_))) | fail))
set_option hygiene false in
local macro_rules | `(tactic| fail "len") => `(tactic| (first | decide | omega | (simp only [List.length_append, List.length_cons, List.length_nil, List.length_map, List.length_reverse, List.length_take, List.length_drop]; omega)))
set_option hygiene false in
local macro_rules | `(tactic| fail "els") => `(tactic| (first | (· (repeat' (first | with_reducible assumption | with_reducible exact els_nil | with_reducible refine els_cons ?_ ?_ | with_reducible refine els_app ?_ ?_ | (with_reducible refine els_bx ?_; (· (fail "sgb"))) | (with_reducible refine els_rev ?_; (· (fail "sgb"))) | (with_reducible exact el_bx (by assumption)) | ((with_reducible apply el_mk); (· (fail "dn")); (· (fail "ly")))))) | fail))
set_option hygiene false in
local macro_rules | `(tactic| fail "th") => `(tactic| (first | (· (refine th_list (by (fail "hg")) (by (fail "ne")) (by (fail "len")) ?_; (fail "els"))) | fail))
set_option hygiene false in
local macro_rules | `(tactic| fail "la") => `(tactic| (first | assumption | exact Lane.ke0' (by assumption) (by (fail "ke")) | exact Lane.lst (by (fail "hg")) | exact Lane.kt))
set_option hygiene false in
local macro_rules | `(tactic| fail "la0") => `(tactic| (first | assumption | exact Lane.ke0' (by assumption) (by (fail "ke"))))
set_option hygiene false in
local macro_rules | `(tactic| fail "gd") => `(tactic| (first | exact gd0 | exact gd1 (by (fail "hg")) | exact gd2 (by (fail "hg")) (by (fail "hg"))))
set_option hygiene false in
local macro_rules | `(tactic| fail "ne") => `(tactic| (first | exact nm0 | exact nm1 (by first | assumption | omega) | exact nm2 (by first | assumption | omega) (by first | assumption | omega)))
set_option hygiene false in
local macro_rules | `(tactic| fail "hg") => `(tactic| (first | (· (repeat (first | assumption | refine Ke.get (by assumption) (by (fail "ne")) ?_))) | fail))
set_option hygiene false in
local macro_rules | `(tactic| fail "bx") => `(tactic| (first | (· (repeat (first | assumption | refine Bx.ke (by assumption) (by (fail "ne")) ?_))) | fail))
set_option hygiene false in
local macro_rules | `(tactic| fail "kc") => `(tactic| (first | exact kc0 | exact kc1 (by first | exact .inl in1 | exact .inr (by omega)) | exact kc2 (by first | exact .inl in1 | exact .inr (by omega)) (by first | exact .inl in1 | exact .inr (by omega))))
set_option hygiene false in
local macro_rules | `(tactic| fail "ke") => `(tactic| (first | (· (repeat (first | exact Ke.refl | assumption | refine Ke.step (by assumption) (by (fail "kc")) ?_))) | fail))
set_option hygiene false in
local macro_rules | `(tactic| fail "kd") => `(tactic| (first | assumption | rfl | exact kd_ref (by (fail "hg")) | exact kd_dK (by (fail "hg")) | exact kd_dT (by (fail "hg")) | exact kd_ins (by (fail "hg")) | assumption))
set_option hygiene false in
local macro_rules | `(tactic| fail "sz") => `(tactic| (first | decide | (rw [sizeLine_eq]; omega) | (rw [sizeLine_eq]; simp only [List.length_append, List.length_cons, List.length_nil, List.length_map, List.length_range, List.length_replicate, List.length_set, List.length_reverse, List.length_take, List.length_drop]; omega) | exact Nat.le_of_ble_eq_true rfl))
set_option hygiene false in
local macro_rules | `(tactic| fail "num") => `(tactic| (first | omega | decide | with_reducible assumption | exact rfl))
set_option hygiene false in
local macro_rules | `(tactic| fail "b62") => `(tactic| (constructor <;> first | omega | (simp only [List.length_map]; omega)))
set_option hygiene false in
local macro_rules | `(tactic| fail "dk") => `(tactic| (first | (· (repeat (first | assumption | (apply Dn.ke'; (· assumption); (· first | exact kc0 | exact kc1 (by first | exact .inr (by omega) | exact .inl in1)))))) | fail))
set_option hygiene false in
local macro_rules | `(tactic| fail "da") => `(tactic| (first | (· (repeat' (first | assumption | exact Da.int _ | exact Da.str _ | exact Da.bl _ | exact Da.non | exact Dn.da (S := []) (by (fail "dk")) | apply Da.tup | (apply Da.lst; · (fail "hg")) | exact DaL.ints _ | with_reducible exact DaL.nil | with_reducible apply DaL.cons | exact Da.dct (by (fail "hg")) DaL.nil | (apply Da.dct; · (fail "hg")) | apply Da.fro | apply Da.kt | exact Dn.da (S := [n]) (by (fail "dk"))))) | fail))
set_option hygiene false in
local macro_rules | `(tactic| fail "dn") => `(tactic| (first | (· (repeat' (first | assumption | exact Dn.int _ | exact Dn.str _ | exact Dn.bl _ | exact Dn.non | apply Dn.tup | (apply Dn.lst; (· (fail "ne")); (· (fail "hg"))) | exact DnL.ints _ | with_reducible exact DnL.nil | with_reducible apply DnL.cons | exact Dn.dct (by (fail "ne")) (by (fail "hg")) DnL.nil | apply Dn.fro | (fail "dk")))) | fail))
set_option hygiene false in
local macro_rules | `(tactic| fail "nc") => `(tactic| (first | (· (repeat' (first | assumption | exact nc_non | exact nc_bl | exact nc_int (by (fail "num")) | exact nc_str (by first | assumption | exact sg_ofString _) | exact nc_dct | refine nc_list ?_ | refine nc_tup ?_ | exact ncl_ints (by assumption) | with_reducible exact ncl_nil | with_reducible refine ncl_cons ?_ ?_))) | fail))
set_option hygiene false in
local macro_rules | `(tactic| fail "ly") => `(tactic| (first | (· (repeat' (first | assumption | exact ly_non | exact ly_bl | exact ly_int | exact ly_str (by (fail "sg")) | refine ly_list ?_ | refine ly_tup ?_ | exact lyl_ints | with_reducible exact lyl_nil | with_reducible refine lyl_cons ?_ ?_))) | fail))
set_option hygiene false in
local macro_rules | `(tactic| fail "sg") => `(tactic| (first | assumption | exact sg_ofString _ | exact Nc.sg (by (fail "nc"))))
set_option hygiene false in
local macro_rules | `(tactic| fail "bk") => `(tactic| (first | assumption | omega | (simp only [PyData.bulk, PyData.bulkAll, PyData.bulkKv, bulk_ints, bulk_app]; first | decide | omega)))
set_option hygiene false in
local macro_rules | `(tactic| fail "fm") => `(tactic| (simp only [List.forall_mem_cons, List.not_mem_nil, false_implies, implies_true, and_true]; repeat' apply And.intro))
set_option hygiene false in
local macro_rules | `(tactic| fail "sq") => `(tactic| (first | assumption | exact Sq.lst (by (fail "hg")) | exact Sq.tup))
set_option hygiene false in
local macro_rules | `(tactic| fail "G_gSs") => `(tactic| first | ((with_reducible apply q_start); (· (fail "sa"))) | (with_reducible refine q_cons ?_) | (with_reducible refine q_nil ?_))
set_option hygiene false in
local macro_rules | `(tactic| fail "G_gEs") => `(tactic| first | (with_reducible refine r_es1 ?_) | (with_reducible refine r_es0 ?_))
set_option hygiene false in
local macro_rules | `(tactic| fail "G_gE") => `(tactic| first | ((with_reducible apply r_var); (· rfl)) | (with_reducible refine r_cst ?_) | (with_reducible refine r_bin ?_) | (with_reducible refine r_cmp ?_) | (with_reducible refine r_idx ?_) | ((with_reducible apply r_callG); (· rfl); (· rfl)) | ((with_reducible apply r_glob); (· rfl)) | (with_reducible refine r_tup ?_) | (with_reducible refine r_lst' ?_) | (with_reducible refine r_blt ?_) | (with_reducible refine r_not ?_) | (with_reducible refine r_and ?_) | (with_reducible refine r_or ?_) | ((with_reducible apply r_isi'); (· rfl)) | (with_reducible refine r_bm ?_) | (with_reducible refine r_slc ?_) | (with_reducible refine r_ch2 ?_) | (with_reducible refine r_ch3 ?_) | (with_reducible refine r_neg ?_) | (with_reducible refine r_ite ?_) | (with_reducible refine r_lc ?_) | (with_reducible refine r_fld' ?_) | (with_reducible refine r_rev ?_) | (with_reducible refine r_dK ?_) | (with_reducible refine r_dT ?_) | (with_reducible refine r_dsp ?_) | (with_reducible refine r_bx ?_) | (with_reducible refine r_meth ?_) | ((with_reducible apply r_mkG); (· rfl); (· rfl)) | ((with_reducible apply r_mkP); (· rfl); (· rfl); (· rfl)) | ((with_reducible apply r_callP); (· rfl); (· rfl); (· rfl)) | (with_reducible refine r_tix ?_) | ((with_reducible apply r_fnv); (· rfl)) | ((with_reducible apply r_callvG); (· rfl); (· rfl); (· rfl)) | ((with_reducible apply r_xfld); (· rfl); (· rfl); (· rfl)) | ((with_reducible apply r_xisT); (· rfl); (· rfl)) | ((with_reducible apply r_xisF); (· rfl); (· rfl)))
set_option hygiene false in
local macro_rules | `(tactic| fail "G_gS") => `(tactic| first | ((with_reducible apply q_setN); (· (fail "sn1"))) | (with_reducible refine q_set ?_) | (with_reducible refine q_ret ?_) | (with_reducible refine q_ite ?_) | (with_reducible refine q_ex ?_) | (with_reducible refine q_for ?_) | (with_reducible refine q_sub ?_) | (with_reducible refine q_parS ?_) | (with_reducible refine ps_tw ?_) | (with_reducible refine q_asg ?_) | ((with_reducible apply q_raise1); (· rfl); rotate_left 1; (· exact Γ_mono _ _); rotate_right 0) | ((with_reducible apply q_try); (· rfl)) | (with_reducible refine q_retN ?_) | (with_reducible refine q_pass ?_) | (with_reducible refine q_brk ?_) | (with_reducible refine q_cont ?_) | ((with_reducible apply q_aug); (· rfl); rotate_left 1; (· exact Γ_mono _ _); rotate_right 0) | (with_reducible refine q_par ?_) | (with_reducible refine q_fld ?_) | (with_reducible refine q_while ?_) | (with_reducible refine q_augF ?_))
set_option hygiene false in
local macro_rules | `(tactic| fail "G_gAn") => `(tactic| first | (refine ⟨?_, ?_⟩; (· exact rfl)) | (refine ⟨?_, ?_⟩; (· (fail "sz"))) | (refine ⟨?_, ?_⟩; (· (fail "kd"))))
set_option hygiene false in
local macro_rules | `(tactic| fail "G_gEx") => `(tactic| first | ((with_reducible refine ⟨_, rfl, ?_⟩)) | (refine ⟨_, rfl, ?_⟩))
set_option hygiene false in
local macro_rules | `(tactic| fail "G_gIs") => `(tactic| first | fail "x_gIs" | ((with_reducible apply is_sq); (· assumption); (· rfl); (· rfl)) | ((with_reducible apply is_T); (· (fail "kd")); (· rfl)) | ((with_reducible apply is_F); (· (fail "kd")); (· rfl)))
set_option hygiene false in
local macro_rules | `(tactic| fail "G_gBin") => `(tactic| first | fail "x_gBin" | (with_reducible refine b_add ?_) | (with_reducible refine b_sub ?_) | ((with_reducible apply b_mod); (· (fail "num"))) | ((with_reducible apply b_mul); (· first | exact mulL (by decide) (by decide) | exact mulR (by decide) (by decide) | exact mulR (by omega) (by omega) | exact mulL (by omega) (by omega))) | ((with_reducible apply b_div); (· first | exact divW (by decide) (by decide) | exact divW (by omega) (by omega))) | (with_reducible refine b_and ?_) | (with_reducible refine b_or ?_) | (with_reducible refine b_xor ?_) | ((with_reducible apply b_pow); (· first | decide | exact powC (by omega) (by omega) (by omega))) | ((with_reducible apply b_shl); (· first | decide | exact powC (by omega) (by omega) (by omega))) | ((with_reducible apply b_shr); (· (fail "num"))) | ((with_reducible apply b_addLM); (· (fail "hg")); (· (fail "hg")); (· (fail "sz"))) | ((with_reducible apply b_addL); (· (fail "hg")); (· (fail "hg")); (· (fail "sz"))) | ((with_reducible apply b_addT); (· (fail "sz"))) | ((with_reducible apply b_addS); (· (fail "sz"))) | ((with_reducible apply b_mulL); (· (fail "hg")); (· (fail "num")); (· (fail "num")); (· (fail "sz"))) | ((with_reducible apply b_mulT); (· simp); (· (fail "num")); (· (fail "num")); (· (fail "sz"))))
set_option hygiene false in
local macro_rules | `(tactic| fail "G_gCmp") => `(tactic| first | fail "x_gCmp" | (with_reducible refine c_lt ?_) | (with_reducible refine c_le ?_) | (with_reducible refine c_gt ?_) | (with_reducible refine c_ge ?_) | (with_reducible refine c_eqi ?_) | (with_reducible refine c_nei ?_) | (with_reducible refine c_eqS ?_) | (with_reducible refine c_neS ?_) | (with_reducible refine c_isN ?_) | (with_reducible refine c_inN ?_) | (with_reducible refine c_isB ?_) | (with_reducible refine c_inB ?_) | (with_reducible refine c_eqB ?_) | (with_reducible refine c_neB ?_) | ((with_reducible apply c_inI); (· (fail "hg"))) | ((with_reducible apply c_niI); (· (fail "hg"))) | ((with_reducible apply c_eqI); (· (fail "hg")); (· (fail "hg"))) | ((with_reducible apply c_neI); (· (fail "hg")); (· (fail "hg"))) | ((with_reducible apply c_eqIE); (· (fail "hg")); (· (fail "hg"))) | ((with_reducible apply c_neIE); (· (fail "hg")); (· (fail "hg"))) | ((with_reducible apply c_inT); (· (fail "hg")); (· rfl)) | ((with_reducible apply c_niT); (· (fail "hg")); (· rfl)) | ((with_reducible apply c_inK); (· (fail "hg")); (· rfl)) | (with_reducible refine c_inSg ?_) | (with_reducible refine c_niSg ?_) | ((with_reducible apply c_neSc); (· rfl)) | ((with_reducible apply c_eqSc); (· rfl)) | ((with_reducible apply c_neNil); (· (fail "hg")); (· (fail "hg"))) | ((with_reducible apply c_eqNil); (· (fail "hg")); (· (fail "hg"))) | ((with_reducible apply c_neN); (· rfl); (· (fail "da")); (· (fail "da")); (· (fail "ly")); (· (fail "ly"))) | ((with_reducible apply c_eqN); (· rfl); (· (fail "da")); (· (fail "da")); (· (fail "ly")); (· (fail "ly"))))
set_option hygiene false in
local macro_rules | `(tactic| fail "G_gIf") => `(tactic| first | (with_reducible refine it ?_) | (with_reducible refine if_ ?_) | ((with_reducible apply dt); (· (fail "num"))) | ((with_reducible apply df); (· (fail "num"))) | ((with_reducible apply ndt); (· (fail "num"))) | ((with_reducible apply ndf); (· (fail "num"))) | ((with_reducible apply bt); (· first | assumption | exact rfl)) | ((with_reducible apply bf); (· first | assumption | exact rfl)) | ((with_reducible apply nbt); (· first | assumption | exact rfl)) | ((with_reducible apply nbf); (· first | assumption | exact rfl)) | refine dec_ite (fun hc => ?_) (fun hc => ?_) | refine ndec_ite (fun hc => ?_) (fun hc => ?_) | refine b_ite (fun hc => ?_) (fun hc => ?_) | refine nb_ite (fun hc => ?_) (fun hc => ?_))
set_option hygiene false in
local macro_rules | `(tactic| fail "G0_gIf") => `(tactic| first | (with_reducible refine it ?_) | (with_reducible refine if_ ?_) | ((with_reducible apply dt); (· (fail "num"))) | ((with_reducible apply df); (· (fail "num"))) | ((with_reducible apply ndt); (· (fail "num"))) | ((with_reducible apply ndf); (· (fail "num"))) | ((with_reducible apply bt); (· first | assumption | exact rfl)) | ((with_reducible apply bf); (· first | assumption | exact rfl)) | ((with_reducible apply nbt); (· first | assumption | exact rfl)) | ((with_reducible apply nbf); (· first | assumption | exact rfl)))
set_option hygiene false in
local macro_rules | `(tactic| fail "G_gBlt") => `(tactic| first | fail "x_gBlt" | ((with_reducible apply f_lenLG); (· (fail "hg"))) | ((with_reducible apply f_lenL); (· (fail "hg"))) | (with_reducible refine f_lenTG ?_) | (with_reducible refine f_lenKG ?_) | (with_reducible refine f_lenT ?_) | (with_reducible refine f_lenF ?_) | (with_reducible refine f_lenK ?_) | (with_reducible refine f_max ?_) | (with_reducible refine f_min ?_) | (with_reducible refine f_int ?_) | (with_reducible refine f_intB ?_) | ((with_reducible apply f_tupL); (· (fail "hg"))) | (with_reducible refine f_tupT ?_) | ((with_reducible apply f_dvm); (· (fail "num")); (· (fail "num"))) | ((with_reducible apply f_lstL'); (· (fail "hg"))) | (with_reducible refine f_lstT' ?_) | (with_reducible refine f_lstK' ?_) | ((with_reducible apply f_sum); (· (fail "hg"))) | ((with_reducible apply f_anyM); (· (fail "hg"))) | ((with_reducible apply f_any); (· (fail "hg"))) | ((with_reducible apply f_allM); (· (fail "hg"))) | ((with_reducible apply f_all); (· (fail "hg"))) | ((with_reducible apply f_repN); (· (fail "da")); (· (fail "nc")); (· (fail "bk"))) | ((with_reducible apply f_lenDT); (· (fail "hg"))) | ((with_reducible apply f_lenDK); (· (fail "hg"))) | ((with_reducible apply f_lenS); (· (fail "sz"))) | (with_reducible refine f_tupK ?_))
set_option hygiene false in
local macro_rules | `(tactic| fail "G_gIx") => `(tactic| first | fail "x_gIx" | ((with_reducible apply ix_tI); (· (fail "num")); (· (fail "num"))) | ((with_reducible apply ix_tN); (· (fail "num")); (· (fail "num"))) | ((with_reducible apply ix_t); (· rfl)) | ((with_reducible apply ix_lI); (· (fail "hg")); (· (fail "num")); (· (fail "num"))) | ((with_reducible apply ix_lN); (· (fail "hg")); (· (fail "num")); (· (fail "num"))) | ((with_reducible apply ix_l); (· (fail "hg")); (· rfl)) | ((with_reducible apply ix_f); (· rfl)) | ((with_reducible apply ix_k); (· rfl)))
set_option hygiene false in
local macro_rules | `(tactic| fail "G_gBm") => `(tactic| first | fail "x_gBm" | ((with_reducible apply m_app); (· (fail "hg")); (· (fail "sz"))) | ((with_reducible apply m_ext); (· (fail "hg")); (· (fail "hg")); (· (fail "sz"))) | ((with_reducible apply m_clr); (· (fail "hg"))) | ((with_reducible apply m_rev); (· (fail "hg"))) | ((with_reducible apply m_ins); (· (fail "hg")); (· (fail "sz")); (· (fail "num")); (· (fail "num"))) | ((with_reducible apply m_popat); (· (fail "hg")); (· (fail "num")); (· (fail "num")); (· (fail "num"))) | (with_reducible refine m_sw ?_) | ((with_reducible apply m_strip); (· (fail "sz"))) | ((with_reducible apply m_rstripC); (· (fail "sz"))))
set_option hygiene false in
local macro_rules | `(tactic| fail "G_gNew") => `(tactic| first | (with_reducible refine nw ?_))
set_option hygiene false in
local macro_rules | `(tactic| fail "G_gSl") => `(tactic| first | fail "x_gSl" | ((with_reducible apply sl_tT); (· (fail "num"))) | ((with_reducible apply sl_tF); (· (fail "num"))) | ((with_reducible apply sl_tM); (· (fail "num")); (· (fail "num"))) | ((with_reducible apply sl_tN); (· (fail "num"))) | (with_reducible refine sl_t ?_) | ((with_reducible apply sl_lT); (· (fail "hg")); (· (fail "num"))) | ((with_reducible apply sl_lF); (· (fail "hg")); (· (fail "num"))) | ((with_reducible apply sl_lM); (· (fail "hg")); (· (fail "num")); (· (fail "num"))) | ((with_reducible apply sl_lN); (· (fail "hg")); (· (fail "num"))) | ((with_reducible apply sl_l); (· (fail "hg"))))
set_option hygiene false in
local macro_rules | `(tactic| fail "G_gSu") => `(tactic| first | fail "x_gSu" | ((with_reducible apply su_lI); (· (fail "hg")); (· (fail "num")); (· (fail "num"))) | ((with_reducible apply su_l'); (· (fail "hg")); (· rfl)) | ((with_reducible apply su_T); (· (fail "hg")); (· rfl); (· (fail "num"))) | ((with_reducible apply su_K); (· (fail "hg")); (· rfl); (· (fail "num"))))
set_option hygiene false in
local macro_rules | `(tactic| fail "G_gMe") => `(tactic| first | fail "x_gMe" | ((with_reducible apply me_G); (· (fail "hg")); (· rfl); (· decide); (· rfl); (· rfl)) | ((with_reducible apply me_P); (· (fail "hg")); (· rfl); (· decide); (· rfl); (· rfl); (· rfl)))
set_option hygiene false in
local macro_rules | `(tactic| fail "G_gMk") => `(tactic| first | fail "x_gMk" | (with_reducible refine mk_in ?_))
set_option hygiene false in
local macro_rules | `(tactic| fail "G_gFs") => `(tactic| first | ((with_reducible apply fs_in'); (· (fail "hg")); (· rfl); (· exact Nat.le_of_ble_eq_true rfl); (· exact rfl)))
set_option hygiene false in
local macro_rules | `(tactic| fail "G_gFl") => `(tactic| first | fail "x_gFl" | ((with_reducible apply fl_in); (· (fail "hg")); (· rfl); (· rfl)))
set_option hygiene false in
local macro_rules | `(tactic| fail "G_gBx") => `(tactic| first | fail "x_gBx" | ((with_reducible apply bx_r1); (· (fail "b62")); (· (fail "num"))) | ((with_reducible apply bx_r2); (· (fail "b62")); (· (fail "b62")); (· (fail "num"))) | ((with_reducible apply bx_rev); (· (fail "hg"))))
set_option hygiene false in
local macro_rules | `(tactic| fail "G_gI") => `(tactic| first | (with_reducible refine i_ex' ?_) | (with_reducible refine i_rng' ?_) | (with_reducible refine i_enm' ?_) | (with_reducible refine i_zip' ?_) | (with_reducible refine i_revR' ?_) | (with_reducible refine i_rev' ?_))
set_option hygiene false in
local macro_rules | `(tactic| fail "G_gRv") => `(tactic| first | ((with_reducible apply rv_l); (· (fail "hg"))) | (with_reducible refine rv_t ?_))
set_option hygiene false in
local macro_rules | `(tactic| fail "G_gDp") => `(tactic| first | ((with_reducible apply d_spE); (· (fail "hg")); (· rfl)))
set_option hygiene false in
local macro_rules | `(tactic| fail "G_gEn") => `(tactic| first | ((with_reducible apply en_l); (· (fail "hg"))) | (with_reducible refine en_t ?_))
set_option hygiene false in
local macro_rules | `(tactic| fail "G_gAnd") => `(tactic| first | (with_reducible refine r_and2 ?_) | (with_reducible refine r_and1 ?_))
set_option hygiene false in
local macro_rules | `(tactic| fail "G_gOr") => `(tactic| first | (with_reducible refine r_or2 ?_) | (with_reducible refine r_or1 ?_))
set_option hygiene false in
local macro_rules | `(tactic| fail "G_gRn") => `(tactic| first | ((with_reducible apply rn_1); (· (fail "b62"))) | ((with_reducible apply rn_2); (· (fail "b62")); (· (fail "b62"))))
set_option hygiene false in
local macro_rules | `(tactic| fail "G_gSr") => `(tactic| first | fail "x_gSr" | ((with_reducible apply sr_sq); (· assumption)) | ((with_reducible apply sr_ref); (· (fail "hg"))) | (with_reducible refine sr_tup ?_) | (with_reducible refine sr_fro ?_) | (with_reducible refine sr_kt ?_) | (with_reducible refine sr_str ?_))
set_option hygiene false in
local macro_rules | `(tactic| fail "G_gG") => `(tactic| first | (fail "zc"))
set_option hygiene false in
local macro_rules | `(tactic| fail "G_gWO") => `(tactic| first | (with_reducible refine wo_no ?_) | (with_reducible refine wo_cst ?_) | (with_reducible refine wo_var ?_) | (with_reducible refine wo_glob ?_) | (with_reducible refine wo_bin ?_) | (with_reducible refine wo_neg ?_) | (with_reducible refine wo_call ?_) | (with_reducible refine wo_blt ?_) | (with_reducible refine wo_idx ?_) | (with_reducible refine wo_fld ?_))
set_option hygiene false in
local macro_rules | `(tactic| fail "G_gWC") => `(tactic| first | (with_reducible refine wc_no ?_) | (with_reducible refine wc_cmp ?_) | (with_reducible refine wc_call ?_) | (with_reducible refine wc_and ?_) | (with_reducible refine wc_or ?_) | (with_reducible refine wc_not ?_) | (with_reducible refine wc_ch2 ?_) | (with_reducible refine wc_blt ?_) | (with_reducible refine wc_bx ?_) | (with_reducible refine wc_var ?_) | (with_reducible refine wc_cst ?_) | (with_reducible refine wc_ch3 ?_) | (with_reducible refine wc_isi ?_) | (with_reducible refine wc_meth ?_) | (with_reducible refine wc_bm ?_) | (with_reducible refine wc_callv ?_) | (with_reducible refine wc_fld ?_) | (with_reducible refine wc_idx ?_) | (with_reducible refine wc_ite ?_) | (with_reducible refine wc_xis ?_))
set_option hygiene false in
local macro_rules | `(tactic| fail "G_gAF") => `(tactic| first | ((with_reducible apply af_in); (· (fail "hg")); (· rfl); (· rfl); (· exact Γ_mono _ _)))
set_option hygiene false in
local macro_rules | `(tactic| fail "G_gAG") => `(tactic| first | ((with_reducible apply ag_in); (· (fail "hg")); (· exact Nat.le_of_ble_eq_true rfl); (· exact rfl)))
set_option hygiene false in
local macro_rules | `(tactic| fail "G_gAs") => `(tactic| first | ((with_reducible apply as_L); (· (fail "hg"))) | (with_reducible refine as_T ?_))
set_option hygiene false in
local macro_rules | `(tactic| fail "G_gTg") => `(tactic| first | fail "x_gTg" | ((with_reducible apply tg_nmN); (· (fail "sn"))) | (with_reducible refine tg_nm ?_) | (with_reducible refine tg_tp ?_) | ((with_reducible apply tg_prN); (· (fail "sn")); (· (fail "sn"))) | (with_reducible refine tg_pr ?_))
set_option hygiene false in
local macro_rules | `(tactic| fail "G_gTs") => `(tactic| first | (with_reducible refine ts_cons ?_) | (with_reducible refine ts_nil ?_))
set_option hygiene false in
local macro_rules | `(tactic| fail "G_gFA") => `(tactic| first | fail "x_gFA" | (fail))
set_option hygiene false in
local macro_rules | `(tactic| fail "G_gLA") => `(tactic| first | fail "x_gLA" | (fail))
set_option hygiene false in
local macro_rules | `(tactic| fail "G_gLP") => `(tactic| first | ((with_reducible apply lp_in); (· (fail "hg")); (· (fail "sz"))))
set_option hygiene false in
local macro_rules | `(tactic| fail "G_gH") => `(tactic| first | ((with_reducible apply h_hit); (· rfl); (· rfl); (· first | exact trivial | exact Nat.le_of_ble_eq_true rfl)) | ((with_reducible apply h_miss); (· rfl); (· rfl)) | ((with_reducible apply h_thr1); (· rfl); (· rfl); (· rfl); rotate_left 1; (· exact Γ_mono _ _); rotate_right 0) | ((with_reducible apply h_thrM); (· rfl); (· rfl)) | (with_reducible refine h_nil ?_))
set_option hygiene false in
local macro_rules | `(tactic| fail "z1") => `(tactic| first | ((with_reducible apply gSs); fail "G_gSs") | ((with_reducible apply gEs); fail "G_gEs") | ((with_reducible apply gE); fail "G_gE") | ((with_reducible apply gS); fail "G_gS") | ((with_reducible apply gAn); fail "G_gAn") | ((with_reducible apply gEx); fail "G_gEx") | ((with_reducible apply gIs); fail "G_gIs") | ((with_reducible apply gBin); fail "G_gBin") | ((with_reducible apply gCmp); fail "G_gCmp") | ((with_reducible apply gIf); fail "G_gIf") | ((with_reducible apply gBlt); fail "G_gBlt") | ((with_reducible apply gIx); fail "G_gIx") | ((with_reducible apply gBm); fail "G_gBm") | ((with_reducible apply gNew); fail "G_gNew") | ((with_reducible apply gSl); fail "G_gSl") | ((with_reducible apply gSu); fail "G_gSu") | ((with_reducible apply gMe); fail "G_gMe") | ((with_reducible apply gMk); fail "G_gMk") | ((with_reducible apply gFs); fail "G_gFs") | ((with_reducible apply gFl); fail "G_gFl") | ((with_reducible apply gBx); fail "G_gBx") | ((with_reducible apply gI); fail "G_gI") | ((with_reducible apply gRv); fail "G_gRv") | ((with_reducible apply gDp); fail "G_gDp") | ((with_reducible apply gEn); fail "G_gEn") | ((with_reducible apply gAnd); fail "G_gAnd") | ((with_reducible apply gOr); fail "G_gOr") | ((with_reducible apply gRn); fail "G_gRn") | ((with_reducible apply gSr); fail "G_gSr") | ((with_reducible apply gG); fail "G_gG") | ((with_reducible apply gWO); fail "G_gWO") | ((with_reducible apply gWC); fail "G_gWC") | ((with_reducible apply gAF); fail "G_gAF") | ((with_reducible apply gAG); fail "G_gAG") | ((with_reducible apply gAs); fail "G_gAs") | ((with_reducible apply gTg); fail "G_gTg") | ((with_reducible apply gTs); fail "G_gTs") | ((with_reducible apply gFA); fail "G_gFA") | ((with_reducible apply gLA); fail "G_gLA") | ((with_reducible apply gLP); fail "G_gLP") | ((with_reducible apply gH); fail "G_gH") | (intro; intros) | dsimp only)
set_option hygiene false in
local macro_rules | `(tactic| fail "zx") => `(tactic| repeat (first | ((with_reducible apply gSs); fail "G_gSs") | ((with_reducible apply gEs); fail "G_gEs") | ((with_reducible apply gE); fail "G_gE") | ((with_reducible apply gS); fail "G_gS") | ((with_reducible apply gAn); fail "G_gAn") | ((with_reducible apply gEx); fail "G_gEx") | ((with_reducible apply gIs); fail "G_gIs") | ((with_reducible apply gBin); fail "G_gBin") | ((with_reducible apply gCmp); fail "G_gCmp") | ((with_reducible apply gIf); fail "G0_gIf") | ((with_reducible apply gBlt); fail "G_gBlt") | ((with_reducible apply gIx); fail "G_gIx") | ((with_reducible apply gBm); fail "G_gBm") | ((with_reducible apply gNew); fail "G_gNew") | ((with_reducible apply gSl); fail "G_gSl") | ((with_reducible apply gSu); fail "G_gSu") | ((with_reducible apply gMe); fail "G_gMe") | ((with_reducible apply gMk); fail "G_gMk") | ((with_reducible apply gFs); fail "G_gFs") | ((with_reducible apply gFl); fail "G_gFl") | ((with_reducible apply gBx); fail "G_gBx") | ((with_reducible apply gI); fail "G_gI") | ((with_reducible apply gRv); fail "G_gRv") | ((with_reducible apply gDp); fail "G_gDp") | ((with_reducible apply gEn); fail "G_gEn") | ((with_reducible apply gAnd); fail "G_gAnd") | ((with_reducible apply gOr); fail "G_gOr") | ((with_reducible apply gRn); fail "G_gRn") | ((with_reducible apply gSr); fail "G_gSr") | ((with_reducible apply gG); fail "G_gG") | ((with_reducible apply gWO); fail "G_gWO") | ((with_reducible apply gWC); fail "G_gWC") | ((with_reducible apply gAF); fail "G_gAF") | ((with_reducible apply gAG); fail "G_gAG") | ((with_reducible apply gAs); fail "G_gAs") | ((with_reducible apply gTg); fail "G_gTg") | ((with_reducible apply gTs); fail "G_gTs") | ((with_reducible apply gFA); fail "G_gFA") | ((with_reducible apply gLA); fail "G_gLA") | ((with_reducible apply gLP); fail "G_gLP") | ((with_reducible apply gH); fail "G_gH") | (intro; intros) | dsimp only))
set_option hygiene false in
local macro_rules | `(tactic| fail "zs") => `(tactic| repeat' (fail "z1"))
namespace My
open PySem PySem.Spec PyProof.Rows L2
/-! ### repr of data -/
def rRepr (K : PySem.W.Frag) : List V → Hp → VK → Prop := fun xs H Q => ∃ (x : V) (d : PyData), xs = [x] ∧ Dp K H x d ∧ d.showable = true ∧ d.depth ≤ 60 ∧ d.shown.length ≤ sizeLine ∧ Q (.str d.shown) H
theorem dp_nodict {K : PySem.W.Frag} {H : Hp} : ∀ (d : PyData), (∀ v, Dp K H v d → d.hasDict = false) ∧ True := by
  intro d
  refine ⟨?_, trivial⟩
  intro v h
  induction h using Dp.rec (motive_2 := fun vs ds _ => PyData.hasDictAll ds = false) with
  | non => rfl
  | bl b => rfl
  | int i => rfl
  | str x => rfl
  | lst _ _ ih => simp only [PyData.hasDict]; exact ih
  | tup _ _ ih => simp only [PyData.hasDict]; exact ih
  | nil => rfl
  | cons _ _ ih1 ih2 => simp only [PyData.hasDictAll, ih1, ih2]; rfl
theorem call_reprD {X : Cx} (hgd : X.A.guards = some []) (hu : X.A.units + 64 < cLine) : CallR X (.builtin "repr") (rRepr X.K) := by
  intro pins s σ H xs us Q I r h
  obtain ⟨x, d, rfl, hd, hs, hdep, hz, q⟩ := h
  obtain ⟨u, rfl, r1⟩ := vals1 r
  obtain ⟨as, hr⟩ := Dp.reads I d x u hd r1
  have hnd := (dp_nodict d).1 x hd
  cases hd with
  | non =>
    cases r1
    exact PySem.P.repr_of_none ⟨.str _, H, I.tok _, ⟨_, rfl⟩, q⟩
  | bl b =>
    cases r1
    exact PySem.P.repr_of_bool ⟨.str _, H, I.tok _, ⟨_, rfl⟩, q⟩
  | int i =>
    obtain ⟨t, rfl⟩ := r1
    exact PySem.P.repr_of_int (by simpa [PyData.showable] using hs) ⟨.str _, H, I.tok _, ⟨_, rfl⟩, q⟩
  | str z =>
    obtain ⟨t, rfl⟩ := r1
    exact PySem.P.repr_of_str ⟨.str _, H, I.tok _, ⟨_, rfl⟩, q⟩ (by simpa only [PyData.shown] using hz)
  | lst h1 h2 =>
    cases r1
    exact repr_of_reads' hr hs (PyData.noDict_hsm hnd) hgd (by omega) (fun _ _ e => e) (fun h' u tk hk => ⟨.str _, H, I.kept (t' := tk) hk, ⟨_, rfl⟩, q⟩) hz
  | tup h1 h2 =>
    cases r1
    exact repr_of_reads' hr hs (PyData.noDict_hsm hnd) hgd (by omega) (fun _ _ e => e) (fun h' u tk hk => ⟨.str _, H, I.kept (t' := tk) hk, ⟨_, rfl⟩, q⟩) hz
end My
/-! ### sorted of a tuple -/
namespace My
open PySem PySem.Spec PyProof.Rows L2
section
variable {prog : Program} {w : World} {A : Around} {E : Value → Shared → Prop} {s : Shared}
theorem collect_tup {l : Addr} {vs : List Value} {o : Obj} {n : Nat} {Q : List Value → Shared → Prop} (ho : s.heap.get? l = some o) (hc : o.cls = .type "tuple") (hd : o.data = .seq vs.toArray n)
    (h : Q vs { s with heap := (s.heap.push (seqObj "list" #[] 0)).update s.heap.objs.size (Obj.mapSeq (· ++ vs.toArray)) }) (hsz : vs.length ≤ sizeLine) :
    wpAny (model prog w) A (collect (.ref l)) Q E s := by
  unfold collect
  refine wpAny_bind (wpAny_runValue (codeAny_builtin entry_proto_collect' ?_))
  show wpAny _ _ (do again (.builtin "list.__iadd__" ⟨[← newList [], .ref l], []⟩)) _ _ s
  refine wpAny_bind (wpAny_newList (wpAny_pure ⟨Code.quiet_builtin _ (by decide +kernel), codeAny_builtin entry_list_iadd' ?_⟩))
  show wpAny _ _ (Builtin.List.listExtendWith (.ref s.heap.objs.size) (.ref l) (.ref s.heap.objs.size)) _ _ { s with heap := s.heap.push (seqObj "list" #[] 0) }
  unfold Builtin.List.listExtendWith
  have ho' : (s.heap.push (seqObj "list" #[] 0)).get? l = some o := Heap.get?_push_of_some _ ho
  refine wpAny_bind (wpAny_typeOf (T := "tuple") ⟨o, ho', hc⟩ ?_)
  have ht : (Value.type "tuple" == Value.type "tuple") = true := by rfl
  rw [if_pos (by rw [ht]; simp)]
  refine wpAny_bind (listItems_at ho' hd ?_)
  refine wpAny_bind (listItems_at (xs := #[]) (n := 0) (Heap.get?_push_size _ rfl) rfl ?_)
  rw [if_neg (by simp)]
  refine wpAny_bind (listUpdate_at (xs := #[]) (n := 0) (Heap.get?_push_size _ rfl) rfl ?_ (Nat.zero_le _) (by show (#[] ++ vs.toArray).size ≤ sizeLine + 1; simp only [Array.size_append, List.size_toArray, List.length_nil]; omega))
  refine wpAny_pure ?_
  show wpAny (model prog w) A (do
      let o ← load s.heap.objs.size
      match o.data with
      | .seq xs _ => pure xs.toList
      | _ => unsupported "internal:collect") Q E { s with heap := (s.heap.push (seqObj "list" #[] 0)).update s.heap.objs.size (Obj.mapSeq (· ++ vs.toArray)) }
  refine wpAny_bind (wpAny_load (get?_update_seq (Heap.get?_push_size _ rfl) _) ?_)
  show wpAny _ _ (pure ((#[] : Array Value) ++ vs.toArray).toList) Q E _
  rw [show ((#[] : Array Value) ++ vs.toArray).toList = vs by simp]
  exact wpAny_pure h
/-- sorted of any thing that is collected as a list is -/
theorem sorted_by {l : Addr} {vs : List Value} {ltv : Value → Value → Bool} {Q : Value → Shared → Prop} (O : SrtO.Swo ltv) (hz : vs.length ≤ sizeLine)
    (hcol : ∀ {A : Around} {E : Value → Shared → Prop} {R : List Value → Shared → Prop}, R vs { s with heap := (s.heap.push (seqObj "list" #[] 0)).update s.heap.objs.size (Obj.mapSeq (· ++ vs.toArray)) } → wpAny (model prog w) A (collect (.ref l)) R E s)
    (hS : 2 ≤ vs.length → ∀ (h₁ : Heap) (a : Addr), h₁.get? a = some (seqObj "list" vs.toArray 0) → (∀ b o, s.heap.get? b = some o → b ≠ a ∧ h₁.get? b = some o) → SrtO.SortableO prog w A.in1.in1 { s with heap := h₁ } a vs ltv)
    (h : ∀ out : List Value, SrtO.Srtd ltv out → SrtO.Stb ltv out vs → Q (.ref (s.heap.objs.size + 1)) { s with heap := sortedAll s.heap vs out.toArray }) :
    wpAny (model prog w) A (call (.builtin "sorted") [.ref l]) Q E s := by
  refine PySem.Calls.call_function_entry kind_sorted plain_sorted entry_sorted (args_sorted1 _) ?_
  unfold Builtin.«sorted»
  refine wpAny_bind (m := checkCount "sorted" 1 1 _) (wpAny_pure ?_)
  refine wpAny_bind (hcol ?_)
  refine wpAny_bind (wpAny_newList ?_ hz)
  have hsz : ((s.heap.push (seqObj "list" #[] 0)).update s.heap.objs.size (Obj.mapSeq (· ++ vs.toArray))).objs.size = s.heap.objs.size + 1 := by
    rw [Heap.size_update, size_push']
  have hoL : (((s.heap.push (seqObj "list" #[] 0)).update s.heap.objs.size (Obj.mapSeq (· ++ vs.toArray))).push (seqObj "list" vs.toArray 0)).get? (s.heap.objs.size + 1) = some (seqObj "list" vs.toArray 0) := by
    rw [← hsz]; exact Heap.get?_push_size _ rfl
  have keep : ∀ b o, s.heap.get? b = some o → b ≠ s.heap.objs.size + 1 ∧ (((s.heap.push (seqObj "list" #[] 0)).update s.heap.objs.size (Obj.mapSeq (· ++ vs.toArray))).push (seqObj "list" vs.toArray 0)).get? b = some o := fun b o q => by
    have hlt : b < s.heap.objs.size := Heap.lt_size q
    refine ⟨Nat.ne_of_lt (Nat.lt_succ_of_lt hlt), Heap.get?_push_of_some _ ?_⟩
    rw [Heap.get?_update_ne _ _ _ _ (Nat.ne_of_lt hlt)]
    exact Heap.get?_push_of_some _ q
  show wpAny _ _ _ _ _ { s with heap := ((s.heap.push (seqObj "list" #[] 0)).update s.heap.objs.size (Obj.mapSeq (· ++ vs.toArray))).push (seqObj "list" vs.toArray 0) }
  rw [hsz]
  refine wpAny_bind (wpAny_holding (wpAny_call_entry slot_list_sort ⟨_, hoL, rfl⟩ entry_list_sort (SrtO.list_sort_ord O hoL hz (fun h2 => hS h2 _ _ hoL keep) fun out hs hb => ⟨_, rfl, ?_⟩) (args_list_sort _)))
  exact wpAny_pure ⟨_, rfl, h out hs hb⟩
end
def rSortedTP (K : PySem.W.Frag) : List V → Hp → VK → Prop := fun vs H Q => ∃ (a : Addr) (xs : List V) (k : V → Int × Int), vs = [V.ref a] ∧ SqT K H a xs ∧ (∀ x ∈ xs, ∃ t, x = V.ref t ∧ H t = some (.tup [.int (k x).1, .int (k x).2])) ∧
  ∀ ys p, SrtO.Srtd (ltP k) ys → SrtO.Stb (ltP k) ys xs → H p = none → Q (.ref p) (upd H p (.lst ys))
theorem cr_sortedTP {X : Cx} : CallR X (.builtin "sorted") (rSortedTP X.K) := by
  intro pins s σ H vs us Q I r h
  obtain ⟨a, xs, k, rfl, hs, hx, q⟩ := h
  obtain ⟨its, rv, ⟨o, ho, hc, n, hd⟩, hz⟩ := I.tuple hs
  obtain ⟨u, rfl, ru⟩ := vals1 r
  obtain rfl : u = Value.ref a := ru
  have hz' : its.length ≤ sizeLine := by rw [← rv.length]; exact hz
  obtain ⟨e1, e2⟩ := refs_back rv fun x m => by
    obtain ⟨t, e, _⟩ := hx x m
    exact ⟨t, e⟩
  have hp : ∀ v ∈ its, Srt.IsPair s.heap v (k (backV v)).1 (k (backV v)).2 := fun v hv => by
    obtain ⟨t, rfl⟩ := e2 v hv
    have hm : V.ref t ∈ xs := by rw [e1]; exact List.mem_map.mpr ⟨_, hv, rfl⟩
    obtain ⟨t', e, ht⟩ := hx _ hm
    cases e
    obtain ⟨_, its2, r2, o, ho, hc, n, hd⟩ := I.hok _ _ ht
    obtain ⟨u1, u2, rfl, ri, rj⟩ := vals2 r2
    obtain ⟨t1, rfl⟩ := ri
    obtain ⟨t2, rfl⟩ := rj
    exact ⟨t, o, t1, t2, n, rfl, ho, hc, hd⟩
  refine sorted_by (SrtO.swo_lex fun u => k (backV u)) hz' (fun h => collect_tup ho hc hd h hz') (fun h2 h₁ a ha kk => ?_) fun out h1 h2 => ?_
  · refine SrtO.pairs_sortableO (s := { s with heap := h₁ }) (by omega) (fun v hm => (hp v hm).keeps fun b o e _ => (kk b o e).2) fun o e => ?_
    have e' : some o = some (seqObj "list" its.toArray 0) := e.symm.trans ha
    cases e'
    intro c
    exact absurd (Value.type.inj c) (by decide)
  · have h3 : ∀ u ∈ out, ∃ a, u = Value.ref a := fun u hu => e2 u (h2.perm.mem_iff.mp hu)
    obtain ⟨n, hn⟩ := sortedAll_at s.heap its out.toArray
    have hb : SrtO.Stb (ltP k) (out.map backV) xs := by
      rw [e1]
      exact SrtO.Stb.map (ltP_swo k) backV h2
    have hd : s.heap.objs.size ≤ s.heap.objs.size + 1 := Nat.le_succ _
    refine ⟨.ref _, upd H (s.heap.objs.size + 1) (.lst (out.map backV)), I.laid (t' := s.toks) (fun b o e => sortedAll_old e) hd ⟨?_, out, n, vals_back h3, hn⟩, rfl, q _ _ (SrtO.srtd_map h1) hb (I.hok.fresh hd)⟩
    rw [hb.len]
    exact hz
def rSortedTI (K : PySem.W.Frag) : List V → Hp → VK → Prop := fun vs H Q => ∃ (a : Addr) (ns : List Int), vs = [V.ref a] ∧ SqT K H a (ns.map V.int) ∧ ∀ (ns' : List Int) (p : Addr), ns'.Perm ns → ns'.Pairwise (· ≤ ·) → H p = none → Q (.ref p) (upd H p (.lst (ns'.map V.int)))
theorem cr_sortedTI {X : Cx} : CallR X (.builtin "sorted") (rSortedTI X.K) := by
  intro pins s σ H vs us Q I r h
  obtain ⟨a, ns, rfl, hs, q⟩ := h
  obtain ⟨its, rv, ⟨o, ho, hc, n, hd⟩, hz⟩ := I.tuple hs
  rw [Vals.ref1 r]
  have hz' : its.length ≤ sizeLine := by rw [← rv.length]; exact hz
  have hi := rv.ints
  refine sorted_by SrtO.swo_int hz' (fun h => collect_tup ho hc hd h hz') (fun h2 h₁ a' _ _ => SrtO.ints_sortable hi h2) fun out h1 h2 => ?_
  obtain ⟨k1, k2, k3⟩ := SrtO.ints_out hi h1 h2
  obtain ⟨ep, he'⟩ := sortedAll_at s.heap its out.toArray
  have hlen : ((out.map SrtO.iv).map V.int).length ≤ sizeLine := by
    rw [List.length_map, k2.length_eq]
    rw [List.length_map] at hz
    exact hz
  exact ⟨.ref _, upd H (s.heap.objs.size + 1) (.lst ((out.map SrtO.iv).map V.int)), I.laid (t' := s.toks) (fun _ _ => sortedAll_old) (Nat.le_succ _) ⟨hlen, out, ep, vals_of_ints k1, he'⟩, rfl, q _ _ k2 k3 (I.hok.fresh (Nat.le_succ _))⟩
end My

/-! ### enumerate of a tuple -/
namespace Z
open PySem PySem.Spec PyProof.Rows L2
theorem meets_enum1 {v : Value} {o : Obj} {H : Heap → Prop} (B : Begins v o H) :
    Meets (Builtin.«enumerate.__new__» ⟨[.type "enumerate", v], []⟩) (fun _ R s => H s.heap ∧
      R (.ok (.ret (.ref (s.heap.push o).objs.size))) { s with heap := (s.heap.push o).push { cls := .type "enumerate", data := .fields #[.none, .bool false, .ref s.heap.objs.size, rawInt 0, .none, .none] } }) :=
  .of_wp fun prog w A R s h => by
    obtain ⟨hp, g, d, tk, os⟩ := s
    obtain ⟨h1, h⟩ := h
    have hsub := sub_enumerate
    have q1 : ∀ {A' : Around} {E : Value → Shared → Prop} {Q : Value → Shared → Prop}, Q (.ref hp.objs.size) ⟨hp.push o, g, d, tk, os⟩ → wpAny (model prog w) A' (pyIter v) Q E ⟨hp, g, d, tk, os⟩ :=
      fun q => B.iter prog w _ _ ⟨hp, g, d, tk, os⟩ _ h1 q
    wp_walk using q1
    refine wpAny_stack_any fun st => wpAny_pure ?_
    split
    · rename_i c _ _ _ _ _
      cases (c == Value.type "enumerate")
      · wp_walk using q1
        exact ⟨_, rfl, h⟩
      · wp_walk using q1
        exact ⟨_, rfl, h⟩
    · wp_walk using q1
      exact ⟨_, rfl, h⟩
theorem enum_begins1 {prog : Program} {w : World} {A : Around} {E : Value → Shared → Prop} {s : Shared} {v : Value} {o : Obj} {H : Heap → Prop} {Q : Value → Shared → Prop} (B : Begins v o H) (h1 : H s.heap)
    (h : ∀ h', IsEnum h' (s.heap.objs.size + 1) s.heap.objs.size 0 .none → h'.get? s.heap.objs.size = some o → h'.objs.size = s.heap.objs.size + 2 →
      (∀ b o, s.heap.get? b = some o → h'.get? b = some o) → Q (.ref (s.heap.objs.size + 1)) { s with heap := h' }) :
    wpAny (model prog w) A (call (.type "enumerate") [v]) Q E s := by
  refine callType_new F.called_enumerate (by decide) (F.typeCall_enumerate_1 _) (F.newCall_enumerate_1 _) (fun obj => F.args_object_init_2 obj _) F.entry_enumerate_new (meets_enum1 B) ⟨h1, ?_⟩
  have hz : (s.heap.push o).objs.size = s.heap.objs.size + 1 := Heap.size_push ..
  show _ ∧ _
  rw [hz]
  have he : IsEnum ((s.heap.push o).push { cls := .type "enumerate", data := .fields #[.none, .bool false, .ref s.heap.objs.size, rawInt 0, .none, .none] }) (s.heap.objs.size + 1) s.heap.objs.size 0 .none := by
    have := Heap.get?_push_size (s.heap.push o) (o := { cls := .type "enumerate", data := .fields #[.none, .bool false, .ref s.heap.objs.size, rawInt 0, .none, .none] }) rfl
    rw [hz] at this; exact this
  exact ⟨⟨_, he, rfl⟩, h _ he (Heap.get?_push_of_some _ (Heap.get?_push_size _ B.free)) (by rw [Heap.size_push, hz]) fun b o x => Heap.get?_push_of_some _ (Heap.get?_push_of_some _ x)⟩
def IteT (K : PySem.W.Frag) (a : Addr) : It :=
  ⟨fun i H => ∃ (xs : List V) (x : V), SqT K H a xs ∧ xs[i]? = some x, fun i H v H' => ∃ T x, v = .ref T ∧ H T = none ∧ H' = upd H T (.tup [.int (i : Nat), x]) ∧ ∀ xs, SqT K H a xs → xs[i]? = some x, fun i H => ∃ xs : List V, SqT K H a xs ∧ xs.length ≤ i⟩
theorem turn_enumT {P : Program} {w : World} {K : PySem.W.Frag} {elts : List Expr} {kk : Nat} {tpos : Pos} (a e it : Addr) :
    Turn P w K (.Tuple elts kk tpos) (IteT K a) [e, it] e (fun i h => (∃ old, IsEnum h e it ((i : Nat) : Int) old) ∧ h.IsTupleIter it a i ∧ e ≠ it) where
  mem := by simp
  obj := fun i h st b hb => by
    obtain ⟨⟨old, he⟩, ⟨o, ho, hc, hd⟩, _⟩ := st
    have e' : b = e ∨ b = it := by simpa using hb
    rcases e' with z | z
    · rw [z]; exact ⟨_, he, fun v q => nomatch q⟩
    · rw [z]; exact ⟨o, ho, fun v q => by rw [hd] at q; cases q⟩
  keep := fun i h h' st k => let ⟨⟨old, he⟩, hi, hne⟩ := st; ⟨⟨old, k e (by simp) _ he⟩, hi.at fun o q => k it (by simp) o q, hne⟩
  item := by
    intro X hP hw hK hc i pins s σ H E I hf st hg
    subst hP hw hK
    obtain ⟨⟨old, he⟩, hit, hne⟩ := st
    obtain ⟨xs, x, hq, hx⟩ := hg
    obtain ⟨its, rv, p, hz⟩ := I.tuple hq
    obtain ⟨u, hu, ru⟩ := rv.get hx
    have hT : s.heap.IsTuple a its.toArray := p
    have hel : e < s.heap.objs.size := Heap.lt_size he
    have hil : it < s.heap.objs.size := by obtain ⟨_, q, _⟩ := hit; exact Heap.lt_size q
    have nai : a ≠ it := fun z => by
      obtain ⟨o1, g1, c1, _⟩ := hT
      obtain ⟨o2, g2, c2, _⟩ := hit
      rw [z, g2] at g1
      cases g1
      rw [c2] at c1
      exact absurd c1 (by decide)
    have nea : e ≠ a := fun z => by
      obtain ⟨o1, g1, c1, _⟩ := hT
      have he' := he
      unfold IsEnum at he'
      rw [z, g1] at he'
      cases he'
      exact absurd c1 (show ¬ (Value.type "enumerate" = Value.type "tuple") by decide)
    have hlt : i < its.toArray.size := by
      have := rv.length
      have hh := (List.getElem?_eq_some_iff.mp hu).1
      simpa using hh
    refine wpAny_pyNext_enum_itemD (Draws.tuple (A := X.A.in1) (show X.A.in1.handled = none from I.ok.hd hc) it a nai its.toArray) he ⟨hit, hT⟩ hlt hne (by simp [hne, nea]) fun y h' tk hy ho hst hT1 hsz hk => ?_
    have ey : y = u := by
      have hy' : its[i]? = some y := by simpa using hy
      rw [hu] at hy'
      exact (Option.some.inj hy').symm
    subst ey
    obtain ⟨hit', _⟩ := hst
    refine ⟨_, rfl, wpAny_letOwnedTupleGo_enum (s := { s with heap := h', toks := tk + 1 }) ho fun h'' he' sb => ?_⟩
    have hT2 : h''.get? s.heap.objs.size = some { cls := .type "tuple", data := .seq #[.int i tk, y] } := (sb.2 _ (Nat.ne_of_gt hel)).trans hT1
    have new : ObjOk X.prog X.w (upd H s.heap.objs.size (.tup [.int (i : Nat), x])) h'' s.heap.objs.size (.tup [.int (i : Nat), x]) :=
      ⟨by show 2 ≤ sizeLine; decide, [.int i tk, y], .cons ⟨_, rfl⟩ (.cons ru .nil), ⟨_, hT2, rfl, _, rfl⟩⟩
    have I1 : Inv X pins σ (upd H s.heap.objs.size (.tup [.int (i : Nat), x])) { s with heap := h'', toks := tk + 1 } :=
      I.turnedNew (ch := [e, it]) (fun b ob hb q => (sb.2 b (fun z => hb (by simp [z]))).trans (hk b ob (fun z => hb (by simp [z])) (fun z => hb (by simp [z])) q)) hf (Nat.le_refl _) new
    refine ⟨.ref s.heap.objs.size, _, I1, rfl, ⟨_, x, rfl, I.hok.fresh (Nat.le_refl _), rfl, fun ys hy => by rw [I.tuple_inj hy hq]; exact hx⟩, ⟨⟨y, ?_⟩, hit'.at fun o q => (sb.2 it (Ne.symm hne)).trans q, hne⟩, fun b hb => ?_⟩
    · have e1 : ((i + 1 : Nat) : Int) = (i : Int) + 1 := by omega
      rw [e1]; exact he'
    · have hb' : b < s.heap.objs.size := by
        have e' : b = e ∨ b = it := by simpa using hb
        rcases e' with z | z
        · rw [z]; exact hel
        · rw [z]; exact hil
      rw [upd_ne (Nat.ne_of_lt hb')]
      exact (hf b hb).1
  done := by
    intro X hP hw hK hc i pins s σ H E I hf st hg
    subst hP hw hK
    obtain ⟨⟨old, he⟩, hit, hne⟩ := st
    obtain ⟨xs, hq, hx⟩ := hg
    obtain ⟨its, rv, p, hz⟩ := I.tuple hq
    have hT : s.heap.IsTuple a its.toArray := p
    obtain ⟨f0, f1, f2, f3, f4, f5⟩ := hf it (by simp)
    have hl := rv.length
    have hTy : s.TypeIs (.ref e) "enumerate" := ⟨_, he, rfl⟩
    unfold pyNext
    refine wpAny_bind (wpAny_attempt (wpAny_callSpecial?_slot (name := Str.ofString "__next__") hTy F.slot_enumerate_next (wpAny_call_entry F.slot_enumerate_next hTy F.entry_enumerate_next ?_ (F.args_enumerate_next_1 _))))
    show wpAny _ _ (field (.ref e) 2 >>= _) _ _ _
    refine wpAny_bind (wpAny_field he rfl (x := .ref it) rfl ?_)
    refine wpAny_bind (wpAny_nextOf_tuple_end (show X.A.in1.handled = none from I.ok.hd hc) hit hT (by simp; omega) fun h' x he' hx' => ?_)
    obtain ⟨o, ho, hcc⟩ := hx'
    refine wpAny_bind (wpAny_isInstance (T := "StopIteration") (b := true) ⟨o, ho, hcc⟩ isSubtype_stop ?_)
    exact wpAny_pure ⟨rfl, I.turned (t' := s.toks) (fun b o hb q => he' b o hb q) f0 f1 f3 f4 f5⟩
  self := fun A i s Q E st h => let ⟨⟨_, he⟩, _⟩ := st; wpAny_pyIter_enum he h
theorem pi_enumA {X : Cx} {e : Expr} {ta : L2.TA} {p pos tpos : Pos} {elts : List Expr} {kk : Nat} (hg : Gl X "enumerate") (hm : X.mg "enumerate" = none) (ha : PA X [e] ta) (hs : starEach [e] X.env = [(false, eval e X.env)] := by rfl) :
    PI X (.Tuple elts kk tpos) (.Call (.Name "enumerate" p) [e] [] pos) (fun σ H R => ta σ H fun vs H1 => (∃ a xs, vs = [.ref a] ∧ SqL X.K H1 a xs ∧ R (Ite X.K a) H1) ∨ ∃ a xs, vs = [.ref a] ∧ SqT X.K H1 a xs ∧ R (IteT X.K a) H1) := by
  refine ⟨fun pins s σ H R I h => ?_⟩
  refine Call_ (ld_blt I hg hm boot_enumerate (PyProof.Rows.callWith_type1 (thn (ha.run pos pins s σ H _ I h) fun us s1 ⟨vs, H1, I1, r1, q1⟩ => ?_) hs rfl))
  rcases q1 with ⟨a, xs, ex, hq, q⟩ | ⟨a, xs, ex, hq, q⟩
  · subst ex
    cases r1 with
    | cons r rr =>
      cases rr
      cases r
      obtain ⟨its, rv, p', hz⟩ := I1.list hq
      refine call_enumerate_list p'.isList fun h' he hit hsz hk => wpAny_pyIter_enum he ?_
      have I2 : Inv X pins σ H1 { s1 with heap := h' } := I1.kept (t' := s1.toks) hk
      refine ⟨s1.heap.objs.size + 1, [s1.heap.objs.size + 1, s1.heap.objs.size], _, _, H1, rfl, I2, turn_enum a (s1.heap.objs.size + 1) s1.heap.objs.size, ⟨⟨.none, he⟩, hit, Nat.succ_ne_self _⟩, fun b hb => ?_, q⟩
      have e' : b = s1.heap.objs.size + 1 ∨ b = s1.heap.objs.size := by simpa using hb
      have hle : s1.heap.objs.size ≤ b := by
        rcases e' with z | z
        · rw [z]; exact Nat.le_add_right _ _
        · rw [z]; exact Nat.le_refl _
      exact I1.fpOk hle (I1.hok.fresh hle)
  · subst ex
    cases r1 with
    | cons r rr =>
      cases rr
      cases r
      obtain ⟨its, rv, p', hz⟩ := I1.tuple hq
      have hT : s1.heap.IsTuple a its.toArray := p'
      refine enum_begins1 (begins_tuple a its.toArray) hT fun h' he hit hsz hk => wpAny_pyIter_enum he ?_
      have I2 : Inv X pins σ H1 { s1 with heap := h' } := I1.kept (t' := s1.toks) hk
      refine ⟨s1.heap.objs.size + 1, [s1.heap.objs.size + 1, s1.heap.objs.size], _, _, H1, rfl, I2, turn_enumT a (s1.heap.objs.size + 1) s1.heap.objs.size, ⟨⟨.none, he⟩, ⟨_, hit, rfl, rfl⟩, Nat.succ_ne_self _⟩, fun b hb => ?_, q⟩
      have e' : b = s1.heap.objs.size + 1 ∨ b = s1.heap.objs.size := by simpa using hb
      have hle : s1.heap.objs.size ≤ b := by
        rcases e' with z | z
        · rw [z]; exact Nat.le_add_right _ _
        · rw [z]; exact Nat.le_refl _
      exact I1.fpOk hle (I1.hok.fresh hle)
end Z

/-! ### list(range(..)), list(reversed(xs)) -/
namespace Z
open PySem PySem.Spec PyProof.Rows L2
def rgL (i c : Int) (n : Nat) : List V := (List.range n).map fun k : Nat => V.int (i + (k : Int) * c)
/-- the arguments of a range: it begins at i, by steps of c, n numbers -/
def RgA (vs : List V) (i c : Int) (n : Nat) : Prop := (∃ j, vs = [.int j] ∧ i = 0 ∧ c = 1 ∧ -(2 ^ 62) ≤ j ∧ j < 2 ^ 62 ∧ n = j.toNat) ∨
  (∃ j, vs = [.int i, .int j] ∧ c = 1 ∧ -(2 ^ 62) ≤ i ∧ i < 2 ^ 62 ∧ -(2 ^ 62) ≤ j ∧ j < 2 ^ 62 ∧ n = (j - i).toNat) ∨ (∃ j, vs = [.int i, .int j, .int c] ∧ RgC i j c n)
def tListR (ta : L2.TA) : L2.TE := fun σ H Q => ta σ H fun vs H1 => ∃ (i c : Int) (n : Nat), RgA vs i c n ∧ n ≤ 1000 ∧ ∀ p, H1 p = none → Q (.ref p) (upd H1 p (.lst (rgL i c n)))
theorem rg_vals {i c : Int} {n : Nat} {acc : Array Value} (h : ItemsOf (fun k v => ∃ t, v = .int (i + (k : Int) * c) t) acc n) : Vals (rgL i c n) acc.toList := by
  have z : ∀ (m : Nat) (us : List Value), us.length = m → (∀ (j : Nat) (v : Value), us[j]? = some v → ∃ t, v = Value.int (i + (j : Int) * c) t) → Vals (rgL i c m) us := by
    intro m
    induction m with
    | zero =>
      intro us hl _
      match us, hl with
      | [], _ => exact .nil
    | succ m ih =>
      intro us hl hv
      have e : us = us.dropLast ++ [us.getLast (by intro z; rw [z] at hl; cases hl)] := (List.dropLast_concat_getLast _).symm
      have hd : us.dropLast.length = m := by rw [List.length_dropLast]; omega
      have h1 := ih us.dropLast hd fun j v q => hv j v (by
        rw [e, List.getElem?_append_left (by have := (List.getElem?_eq_some_iff.mp q).1; omega)]
        exact q)
      obtain ⟨t, ht⟩ := hv m (us.getLast (by intro z; rw [z] at hl; cases hl)) (by
        rw [List.getElem?_eq_getElem (by omega)]
        simp [List.getLast_eq_getElem, hl])
      rw [e]
      unfold rgL
      rw [List.range_succ, List.map_append]
      refine Vals.append h1 (.cons ?_ .nil)
      rw [ht]
      exact ⟨t, rfl⟩
  refine z n acc.toList (by rw [Array.length_toList]; exact h.1) fun j v q => h.2 j v ?_
  rw [← Array.getElem?_toList]
  exact q
section
variable {X : Cx}
theorem pe_listR {a : Expr} {as : List Expr} {ta : TA} {p p2 pos pos2 : Pos} (hc : X.calm = true) (hg : Gl X "list") (hm : X.mg "list" = none) (hg2 : Gl X "range") (hm2 : X.mg "range" = none) (ha : PA X (a :: as) ta)
    (hs : starEach (a :: as) X.env = (false, eval a X.env) :: starEach as X.env := by rfl) (hpl : (backTo pos2 (starEach as X.env)).any (·.1) = false := by rfl)
    (hs2 : starEach [.Call (.Name "range" p2) (a :: as) [] pos2] X.env = (false, eval (.Call (.Name "range" p2) (a :: as) [] pos2) X.env) :: starEach [] X.env := by rfl) :
    PE X (.Call (.Name "list" p) [.Call (.Name "range" p2) (a :: as) [] pos2] [] pos) (tListR ta) := by
  refine ⟨fun pins s σ H Q I h => ?_⟩
  refine Call_ (ld_blt I hg hm boot_list (PyProof.Rows.callWith_type1 (args_cons (Call_ (ld_blt I hg2 hm2 boot_range (PyProof.Rows.callWith_type1 (thn (ha.run pos2 pins s σ H _ I h) fun us s1 ⟨vs, H1, I1, r1, q1⟩ => ?_) hs hpl))) hs2) hs2 rfl))
  obtain ⟨i, c, n, hr, hn, q⟩ := q1
  have fin : ∀ {r : Addr} {j : Int} {t u v : Tok} {s2 : Shared}, Inv X pins σ H1 s2 → IsRange s2.heap r i j c t u v → Builtin.Range.small i j c = true → Builtin.Range.rangeSize i j c = n →
      wpAny (model X.prog X.w) X.A (call (.type "list") [.ref r]) (EP X pins σ Q) X.xe s2 := by
    intro r j t u v s2 I2 hi h1 h2
    refine call_list_range (I2.ok.hd hc) hi h1 h2 (Nat.le_trans hn (by decide)) fun h' tk acc c' hk hS hacc => ?_
    refine ⟨.ref s2.heap.objs.size, upd H1 s2.heap.objs.size (.lst (rgL i c n)), I2.laid (t' := tk) hk (Nat.le_refl _) (show ObjOk X.prog X.w _ h' _ (.lst (rgL i c n)) from ⟨?_, acc.toList, c', rg_vals hacc, ?_⟩), rfl, q _ (I2.hok.fresh (Nat.le_refl _))⟩
    · simp only [rgL, List.length_map, List.length_range]
      exact Nat.le_trans hn (by decide)
    · rw [Array.toArray_toList]
      exact hS
  rcases hr with ⟨j, rfl, rfl, rfl, j1, j2, rfl⟩ | ⟨j, rfl, rfl, i1, i2, j1, j2, rfl⟩ | ⟨j, rfl, c0, c1, c2, c3⟩
  · obtain ⟨u, rfl, ru⟩ := vals1 r1
    obtain ⟨t, rfl⟩ := ru
    refine call_range_1 (args_nil (fin ?_ (IsRange.new ..) (small_one (by decide) (by decide) j1 j2) ?_))
    · exact I1.kept (t' := s1.toks + 1 + 1) fun b o e => Heap.get?_push_of_some _ e
    · rw [rangeSize_one]
      split <;> omega
  · obtain ⟨u1, u2, rfl, ri, rj⟩ := vals2 r1
    obtain ⟨t, rfl⟩ := ri
    obtain ⟨u, rfl⟩ := rj
    refine call_range_2 (args_nil (fin ?_ (IsRange.new ..) (small_one i1 i2 j1 j2) ?_))
    · exact I1.kept (t' := s1.toks + 1) fun b o e => Heap.get?_push_of_some _ e
    · rw [rangeSize_one]
      split <;> omega
  · cases r1 with
    | cons r rr =>
      cases rr with
      | cons r' rr =>
        cases rr with
        | cons r'' rr =>
          cases rr
          obtain ⟨t, rfl⟩ := r
          obtain ⟨t', rfl⟩ := r'
          obtain ⟨t'', rfl⟩ := r''
          refine call_range_3 c0 (args_nil (fin ?_ (IsRange.new ..) c2 c3)) (.inl (PyProof.noPylong_small c1))
          exact I1.kept (t' := s1.toks) fun b o e => Heap.get?_push_of_some _ e
end
section
variable {prog : Program} {w : World} {A : Around} {E : Value → Shared → Prop} {s : Shared}
theorem list_extend_rev {R : Result → Shared → Prop} {it l : Addr} {items : Array Value} (hh : A.handled = none) (hit : s.heap.IsRevIter it l ((items.size : Int) - 1)) (hl : s.heap.IsList l items) (hne : l ≠ it) (hn : items.size ≤ sizeLine) (S : Addr) (hSi : S ≠ it) (hSl : S ≠ l) {c : Nat}
    (hS : s.heap.get? S = some { cls := .type "list", data := .seq #[] c })
    (hR : ∀ h' tk acc' c', (∀ b o, b ≠ S → b ≠ it → s.heap.get? b = some o → h'.get? b = some o) → h'.get? S = some { cls := .type "list", dict := none, data := .seq acc' c', slots := #[] } →
      ItemsOf (fun i v => items[items.size - 1 - i]? = some v) acc' items.size → R (.ok (.ret .none)) { s with heap := h', toks := tk }) :
    wpAny (model prog w) A.in1 (Builtin.List.listExtendWith (.ref S) (.ref it) .none)
      (fun fin s' => match fin with | .done f => R (.ok f) s' | .again c' => c'.quiet = true ∧ codeAny (model prog w) A c' R s') (fun e s' => R (.error e) s') s := by
  have W := (Walks.listRev (prog := prog) (w := w) (A := A.in1) hh it l hne items).toS
  have hSf : S ∉ [it, l] := by simp only [List.mem_cons, List.not_mem_nil, or_false, not_or]; exact ⟨hSi, hSl⟩
  have hT : s.TypeIs (.ref it) "list_reverseiterator" := hit.typeIs
  have h1 : Builtin.List.listSameRef (.ref S) (.ref it) = false := by simp [Builtin.List.listSameRef, hSi]
  unfold Builtin.List.listExtendWith
  refine wpAny_bind (wpAny_typeOf hT ?_)
  rw [if_neg (by rw [h1]; decide)]
  refine wpAny_bind (wpAny_pyIter_revIter hit ?_)
  refine wpAny_bind (wpAny_holding ?_)
  unfold Builtin.List.listLengthHint
  refine wpAny_bind (wpAny_specialOf hT RT.nolen_lri ?_)
  show wpAny _ A.in1 (specialOf (Value.ref it) (Str.ofString "__length_hint__") >>= _) _ _ _
  refine wpAny_bind (wpAny_specialOf hT RT.hint_lri ?_)
  generalize hid : ("list_reverseiterator.__length_hint__" : String) = id0
  wp_delta
  rw [show splitId id0 = some ("list_reverseiterator", "__length_hint__") from by subst hid; decide +kernel]
  subst hid
  refine wpAny_bind (wpAny_isInstance (b := true) hT (by rw [isSubtype_type]; kernel_rfl) ?_)
  refine wpAny_pure ?_
  rw [if_neg (by decide)]
  have e0 : ((items.size : Nat) : Int) - 1 - ((0 : Nat) : Int) = (items.size : Int) - 1 := by omega
  refine wpAny_pure ⟨plainId_quiet F.plain_extend_loop _, codeAny_extend_loopS W hn _ hSf _ items.size 0 _ _ _ rfl (Nat.zero_le _) ⟨Nat.zero_le _, by rw [e0]; exact hit, hl⟩ hS (ItemsOf.nil _) fun s' acc' c' hm hS' hacc => ?_⟩
  rw [Moved.eq_with hm]
  refine hR s'.heap s'.toks acc' c' (fun b o hb hb2 e => hm.heap b o (fun hmem => ?_) e) hS' hacc
  rcases List.mem_cons.mp hmem with e' | hmem
  · exact hb e'
  · exact hb2 (List.mem_singleton.mp hmem)
theorem call_list_rev {it l : Addr} {items : Array Value} {Q : Value → Shared → Prop} (hh : A.handled = none) (hit : s.heap.IsRevIter it l ((items.size : Int) - 1)) (hl : s.heap.IsList l items) (hne : l ≠ it) (hn : items.size ≤ sizeLine)
    (hQ : ∀ h' tk acc' c', (∀ b o, b ≠ it → s.heap.get? b = some o → h'.get? b = some o) → h'.get? s.heap.objs.size = some { cls := .type "list", dict := none, data := .seq acc' c', slots := #[] } →
      ItemsOf (fun i v => items[items.size - 1 - i]? = some v) acc' items.size → Q (.ref s.heap.objs.size) { s with heap := h', toks := tk }) :
    wpAny (model prog w) A (call (.type "list") [.ref it]) Q E s := by
  refine callType_codes (Q₁ := fun obj s₁ => obj = .ref s.heap.objs.size ∧ s₁ = { s with heap := s.heap.push { cls := .type "list", data := .seq #[] } }) F.called_list (F.typeCall_list_1 _) F.entry_list_init
    (code_list_new _ ⟨rfl, rfl⟩) fun obj s₁ h₁ => ?_
  obtain ⟨rfl, rfl⟩ := h₁
  obtain ⟨oi, hoi, _⟩ := id hit
  obtain ⟨ol, hol, _⟩ := id hl
  have hSi : s.heap.objs.size ≠ it := Nat.ne_of_gt (Heap.lt_size hoi)
  have hSl : s.heap.objs.size ≠ l := Nat.ne_of_gt (Heap.lt_size hol)
  have hS : (s.heap.push { cls := .type "list", data := .seq #[] }).get? s.heap.objs.size = some { cls := .type "list", data := .seq #[] } := Heap.get?_push_size _ rfl
  refine ⟨⟨_, hS, rfl⟩, F.args_list_init_2 _ _, ?_⟩
  show wpAny _ A.in1.in1 (do let old ← Builtin.List.listItems (.ref s.heap.objs.size); Builtin.List.listUpdate (.ref s.heap.objs.size) (fun _ => #[]); letGo old.toList.reverse; Builtin.List.listExtendWith (.ref s.heap.objs.size) (.ref it) .none) _ _ _
  refine wpAny_bind ?_
  unfold Builtin.List.listItems
  refine wpAny_bind (wpAny_seqItems hS rfl (wpAny_pure ?_))
  show wpAny _ _ (updateSeq s.heap.objs.size (fun _ => #[]) >>= fun _ => letGo (#[] : Array Value).toList.reverse >>= fun _ => Builtin.List.listExtendWith (.ref s.heap.objs.size) (.ref it) .none) _ _ _
  refine wpAny_bind (wpAny_updateSeq hS rfl ?_)
  have hS₂ := Heap.get?_update_self (Obj.mapSeq (fun _ => (#[] : Array Value))) hS rfl
  have oth : ∀ b o, b ≠ s.heap.objs.size → s.heap.get? b = some o → ((s.heap.push { cls := .type "list", data := .seq #[] }).update s.heap.objs.size (Obj.mapSeq (fun _ => (#[] : Array Value)))).get? b = some o :=
    fun b o hb e => (Heap.get?_update_other _ _ (Ne.symm hb)).trans (Heap.get?_push_of_some _ e)
  refine wpAny_bind (wpAny_letGo ?_)
  refine list_extend_rev (A := A.in1) (s := { s with heap := (s.heap.push { cls := .type "list", data := .seq #[] }).update s.heap.objs.size (Obj.mapSeq (fun _ => (#[] : Array Value))) }) hh (hit.at fun o e => oth _ _ (Ne.symm hSi) e) ?_ hne hn _ hSi hSl hS₂ fun h' tk acc' c' hk hS' hacc => ?_
  · obtain ⟨o, ho, r⟩ := hl
    exact ⟨o, oth _ _ (Ne.symm hSl) ho, r⟩
  · exact ⟨rfl, hQ h' tk acc' c' (fun b o hb e => hk b o (Nat.ne_of_lt (Heap.lt_size e)) hb (oth b o (Nat.ne_of_lt (Heap.lt_size e)) e)) hS' hacc⟩
end
def tListRev (K : PySem.W.Frag) (te : L2.TE) : L2.TE := fun σ H Q => te σ H fun v H1 => ∃ (a : Addr) (xs : List V), v = .ref a ∧ SqL K H1 a xs ∧ ∀ p, H1 p = none → Q (.ref p) (upd H1 p (.lst xs.reverse))
theorem pe_listRev {X : Cx} {e : Expr} {te : TE} {p p2 pos pos2 : Pos} (hc : X.calm = true) (hg : Gl X "list") (hm : X.mg "list" = none) (hg2 : Gl X "reversed") (hm2 : X.mg "reversed" = none) (he : PE X e te)
    (hs : starEach [e] X.env = (false, eval e X.env) :: starEach [] X.env := by rfl)
    (hs2 : starEach [.Call (.Name "reversed" p2) [e] [] pos2] X.env = (false, eval (.Call (.Name "reversed" p2) [e] [] pos2) X.env) :: starEach [] X.env := by rfl) :
    PE X (.Call (.Name "list" p) [.Call (.Name "reversed" p2) [e] [] pos2] [] pos) (tListRev X.K te) := by
  refine ⟨fun pins s σ H Q I h => ?_⟩
  refine Call_ (ld_blt I hg hm boot_list (PyProof.Rows.callWith_type1 (args_cons (Call_ (ld_blt I hg2 hm2 PyProof.Rows.boot_reversed (PyProof.Rows.callWith_type1 (args_cons (thn (he.run pins s σ H _ I h) fun u s1 ⟨v, H1, I1, r1, q1⟩ => args_nil ?_) hs) hs rfl))) hs2) hs2 rfl))
  obtain ⟨a, xs, ev, hq, q⟩ := q1
  subst ev
  obtain rfl : u = Value.ref a := r1
  obtain ⟨its, rv, p', hz⟩ := I1.list hq
  refine call_reversed_list p'.isList (args_nil ?_)
  have k0 : ∀ b o, s1.heap.get? b = some o → (s1.heap.push (revObj a ((its.toArray.size : Int) - 1))).get? b = some o := fun b o e => Heap.get?_push_of_some _ e
  have I2 : Inv X pins σ H1 { s1 with heap := s1.heap.push (revObj a ((its.toArray.size : Int) - 1)) } := I1.kept (t' := s1.toks) k0
  have hl := p'.isList
  obtain ⟨ol, hol, _⟩ := id hl
  have hne : a ≠ s1.heap.objs.size := Nat.ne_of_lt (Heap.lt_size hol)
  have hn : its.toArray.size ≤ sizeLine := by rw [List.size_toArray, ← rv.length]; exact hz
  obtain ⟨f0, f1, f2, f3, f4, f5⟩ := I1.fpOk (H' := H1) (b := s1.heap.objs.size) (Nat.le_refl _) (I1.hok.fresh (Nat.le_refl _))
  refine call_list_rev (s := { s1 with heap := s1.heap.push (revObj a ((its.toArray.size : Int) - 1)) }) (I1.ok.hd hc) ⟨_, Heap.get?_push_size _ rfl, rfl, rfl⟩ (hl.push _) hne hn fun h' tk acc c' hk hS hi => ?_
  -- what stood before stands: the iterator alone was written
  have kk : ∀ b o, s1.heap.get? b = some o → h'.get? b = some o := fun b o e => hk b o (Nat.ne_of_lt (Heap.lt_size e)) (k0 b o e)
  have hge : s1.heap.objs.size ≤ (s1.heap.push (revObj a ((its.toArray.size : Int) - 1))).objs.size := by rw [size_push']; exact Nat.le_succ _
  refine ⟨.ref (s1.heap.push (revObj a ((its.toArray.size : Int) - 1))).objs.size, upd H1 (s1.heap.push (revObj a ((its.toArray.size : Int) - 1))).objs.size (.lst xs.reverse), I1.laid (t' := tk) kk hge (show ObjOk X.prog X.w _ h' _ (.lst xs.reverse) from ⟨by rw [List.length_reverse]; exact hz, acc.toList, c', RT.vals_rev rv hi, ?_⟩), rfl, q _ (I1.hok.fresh hge)⟩
  rw [Array.toArray_toList]
  exact hS
end Z


/-! ### len(set(texts)) -/
namespace Z
open PySem PySem.Spec PyProof.Rows L2
/-- how many unlike ones -/
def dcnt {α : Type} [DecidableEq α] : List α → Nat
  | [] => 0
  | x :: r => (if x ∈ r then 0 else 1) + dcnt r
theorem dcnt_le {α : Type} [DecidableEq α] : ∀ l : List α, dcnt l ≤ l.length
  | [] => Nat.le_refl _
  | x :: r => by have := dcnt_le r; unfold dcnt; rw [List.length_cons]; split <;> omega
theorem dcnt_nd {α : Type} [DecidableEq α] : ∀ l : List α, dcnt l = l.length ↔ l.Nodup
  | [] => by simp [dcnt]
  | x :: r => by
    have h1 := dcnt_le r
    have h2 := dcnt_nd r
    unfold dcnt
    rw [List.length_cons, List.nodup_cons, ← h2]
    by_cases z : x ∈ r
    · rw [if_pos z]; exact ⟨fun e => by omega, fun e => absurd z e.1⟩
    · rw [if_neg z]; exact ⟨fun e => ⟨z, by omega⟩, fun e => by have := e.2; omega⟩
abbrev inP (xs : List PySem.Str) (i : Nat) : PySem.Str → Bool := fun y => decide (y ∈ (xs.take i).reverse)
abbrev cntP (xs : List PySem.Str) (i : Nat) : Nat := dcnt (xs.take i).reverse
theorem cntP_succ {xs : List PySem.Str} {i : Nat} {x : PySem.Str} (e : xs[i]? = some x) : cntP xs (i + 1) = if inP xs i x = true then cntP xs i else cntP xs i + 1 := by
  unfold cntP inP
  rw [List.take_add_one, e, Option.toList_some, List.reverse_append]
  show (if x ∈ (xs.take i).reverse then 0 else 1) + dcnt (xs.take i).reverse = _
  by_cases z : x ∈ (xs.take i).reverse
  · rw [if_pos z, if_pos (decide_eq_true z)]; omega
  · rw [if_neg z, if_neg (by simpa using z)]; omega
theorem inP_succ {xs : List PySem.Str} {i : Nat} {x : PySem.Str} (e : xs[i]? = some x) (y : PySem.Str) : (inP xs i y || decide (y = x)) = inP xs (i + 1) y := by
  unfold inP
  rw [List.take_add_one, e, Option.toList_some, List.reverse_append]
  by_cases z : y = x
  · subst z; simp
  · simp [z]
theorem getD_str {xs : List PySem.Str} {i : Nat} (h : i < xs.length) : xs[i]? = some (xs.getD i PySem.Str.empty) := by
  rw [List.getD_eq_getElem?_getD, List.getElem?_eq_getElem h]; rfl
section
variable {P : Program} {w : World} {A : Around} {R : Result → Shared → Prop} {J : Addr} {fs ws : List Addr} {G : Array GenState → Array GenState → Prop} {n : Nat} {V0 : Nat → Value → Prop} {T : Nat → Shared → Prop}
theorem set_loopS (W : WalksS P w A.in1 J fs ws G n V0 T) (a : Addr) (na : a ∉ fs) (xs : List PySem.Str) (hx : xs.length = n) (hm : n ≤ 1000) (hv : ∀ i v, V0 i v → ∃ t, v = .str (xs.getD i PySem.Str.empty) t) :
    ∀ (m i : Nat) (s : Shared), m + i = n → T i s → s.heap.SetOf (PySem.strKind P w) a (inP xs i) (cntP xs i) →
      (∀ s', Moved (a :: ws) G s s' → s'.heap.SetOf (PySem.strKind P w) a (inP xs n) (cntP xs n) → R (.ok (.ret .none)) s') → codeAny (model P w) A (.builtin "set.update.loop" ⟨[.ref a, .ref J], []⟩) R s := by
  have nw : a ∉ ws := fun z => na (W.sub _ z)
  have up : ∀ b ∈ ws, b ∈ a :: ws := fun _ z => List.mem_cons_of_mem _ z
  have go : ∀ {s s' : Shared} {S : PySem.Str → Bool} {c : Nat}, s.heap.SetOf (PySem.strKind P w) a S c → Moved ws G s s' → s'.heap.SetOf (PySem.strKind P w) a S c := by
    rintro s s' S c ⟨o, es, ep, t, ho, rest⟩ mv; exact ⟨o, es, ep, t, mv.heap a _ nw ho, rest⟩
  intro m
  induction m with
  | zero =>
    intro i s e st hS hR
    obtain rfl : i = n := by omega
    refine codeAny_builtin PyProof.Rows.F.entry_set_update_loop ?_; rw [Around.under_plainId PyProof.Rows.F.plain_set_update_loop _]
    show wpAny _ A.in1 (pyNext (.ref J) >>= _) _ _ s
    refine wpAny_bind (W.done s _ _ st fun s' mv => ?_); show wpAny _ A.in1 (ret Value.none) _ _ s'
    exact wpAny_pure (hR s' (mv.mono up) (go hS mv))
  | succ m ih =>
    intro i s e st hS hR
    have lt : i < n := by omega
    have ei := getD_str (xs := xs) (i := i) (by omega)
    refine codeAny_builtin PyProof.Rows.F.entry_set_update_loop ?_; rw [Around.under_plainId PyProof.Rows.F.plain_set_update_loop _]
    show wpAny _ A.in1 (pyNext (.ref J) >>= _) _ _ s
    refine wpAny_bind (W.item i s _ _ lt st fun v s' hP st' mv => ?_)
    obtain ⟨t, rfl⟩ := hv i v hP
    show wpAny _ A.in1 (holding [Value.str (xs.getD i PySem.Str.empty) t] (setAdd a (.str (xs.getD i PySem.Str.empty) t)) >>= _) _ _ s'
    refine wpAny_bind (wpAny_holding ?_); unfold setAdd; refine wpAny_holding ?_
    refine wpAny_bind ((PySem.strKind P w).pyHash (k := xs.getD i PySem.Str.empty) (strKind_is _ _ _ _) ?_)
    have cl := dcnt_le (xs.take i).reverse
    rw [List.length_reverse, List.length_take] at cl
    have hS1 := go hS mv
    refine wpAny_setAddHashed_of (knd := PySem.strKind P w) (s := { s' with toks := s'.toks + 1 }) (strKind_is _ _ _ _) rfl hS1 (by unfold scanBound; show cntP xs i + 1 < _; unfold cntP; omega) fun h' sb hS2 => ?_
    have hS3 : h'.SetOf (PySem.strKind P w) a (inP xs (i + 1)) (cntP xs (i + 1)) := PyProof.Rows.SetOf_congr hS2 (fun y => inP_succ ei y) (cntP_succ ei).symm
    refine wpAny_pure ⟨plainId_quiet PyProof.Rows.F.plain_set_update_loop _, ih (i + 1) _ (by omega) (W.frame _ s' _ _ st' (Nat.le_succ _) fun b hb o eb => ?_) hS3 fun s2 mv2 hS4 => ?_⟩
    · rw [sb.2 b (fun z : b = a => na (z ▸ hb))]; exact eb
    · refine hR s2 (Moved.trans W.gtrans ((mv.mono up).then_heap (Nat.le_succ _) fun b o hb eb => ?_) mv2) hS4
      rw [sb.2 b (fun z : b = a => hb (z ▸ List.mem_cons_self))]; exact eb
end
section
variable {P : Program} {w : World} {A : Around} {E : Value → Shared → Prop} {s : Shared}
set_option maxHeartbeats 3200000 in
theorem set_of_any {T : String} {itC : Value} {l : Addr} {od : Option Addr} {nl : Nat} {os : Array (Option Value)} {its : Array Value} {xs : List PySem.Str} {Q : Value → Shared → Prop} {St : Addr → Nat → Heap → Prop} (hh : A.handled = none)
    (q1 : isSubtype (.type T) (.type "set") = pure false) (q2 : isSubtype (.type T) (.type "frozenset") = pure false) (q3 : (Value.type T == Value.type "dict") = false)
    (hIt : ∀ (s' : Shared) (A' : Around) (Q E : Value → Shared → Prop), s'.heap.get? l = some { cls := .type T, dict := od, data := .seq its nl, slots := os } → Q (.ref s'.heap.objs.size) { s' with heap := s'.heap.push { cls := itC, data := .fields #[.ref l, .int 0 0] } } → wpAny (model P w) A' (pyIter (.ref l)) Q E s')
    (W : ∀ A' : Around, A'.handled = none → ∀ I : Addr, l ≠ I → Walks P w A' I [I, l] [I] its.size (fun i v => its[i]? = some v) (St I))
    (h0 : ∀ (hp : Heap) (I : Addr), hp.get? l = some { cls := .type T, dict := od, data := .seq its nl, slots := os } → hp.get? I = some { cls := itC, data := .fields #[.ref l, .int 0 0] } → St I 0 hp)
    (hol : s.heap.get? l = some { cls := .type T, dict := od, data := .seq its nl, slots := os }) (hi : PyProof.Rows.StrsAre its.toList xs) (hm : xs.length ≤ 1000)
    (h : ∀ (h' : Heap) (tk : Nat), h'.SetOf (PySem.strKind P w) s.heap.objs.size (inP xs its.size) (cntP xs its.size) → (∀ b o, b < s.heap.objs.size → s.heap.get? b = some o → h'.get? b = some o) → Q (.ref s.heap.objs.size) { s with heap := h', toks := tk }) : wpAny (model P w) A (call (.type "set") [.ref l]) Q E s := by
  obtain ⟨_, _, hmro⟩ := PySem.F.called_set.mro; have hmade := PySem.F.called_set.made; have hsub := PySem.F.called_set.sub
  refine wpAny_call (codeAny_of_tree ?_); show wpAny _ _ (callAny (.type "set") _) _ _ _
  refine wpAny_pure ⟨Code.quiet_builtin _ (by decide +kernel), codeAny_builtin PySem.F.entry_type_call ?_⟩; rw [Around.under_plain (weight_type_call_type "set" [.ref l] []) rfl]
  have h1 := PySem.F.called_set.notType; have h2 := PySem.F.called_set.canCreate; have h3 := PySem.F.typeCall_set_1 (.ref l)
  repeat (any_goals (first | assumption | wp_step))
  refine codeAny_mono (code_set_new_1 (.ref l) (E := E) (Q₁ := fun ob s1 => ∃ z : Bool, ob = .ref s.heap.objs.size ∧ s1 = { s with heap := s.heap.push { cls := .type "set", dict := none, data := .set #[] 0 (.fresh 0 0 z) } }) fun z => ⟨z, rfl, rfl⟩) fun r s1 hr => ?_
  cases r with
  | error e => exact hr
  | ok fl =>
    cases fl with
    | ret ob =>
      obtain ⟨z, rfl, rfl⟩ := hr
      have hS : (s.heap.push { cls := .type "set", dict := none, data := .set #[] 0 (.fresh 0 0 z) }).get? s.heap.objs.size = some { cls := .type "set", dict := none, data := .set #[] 0 (.fresh 0 0 z) } := Heap.get?_push_size _ rfl
      have hT : Shared.TypeIs { s with heap := s.heap.push { cls := .type "set", dict := none, data := .set #[] 0 (.fresh 0 0 z) } } (.ref s.heap.objs.size) "set" := ⟨_, hS, rfl⟩
      have hli := PySem.F.called_set.init.lookup; have hbi := PySem.F.called_set.init.bind (.ref s.heap.objs.size)
      repeat (any_goals (first | assumption | wp_step))
      refine codeAny_mono (codeAny_call_builtin (R := wants (fun r s2 => r = .none ∧ ∃ h' tk, s2 = { s with heap := h', toks := tk } ∧ h'.SetOf (PySem.strKind P w) s.heap.objs.size (inP xs its.size) (cntP xs its.size) ∧ (∀ b o, b < s.heap.objs.size → s.heap.get? b = some o → h'.get? b = some o)) E) PySem.F.called_set.init.plain PySem.F.entry_set_init (check_set_init_1 hT ?_)) fun r2 s2 hr2 => ?_
      · have hol' : (s.heap.push { cls := .type "set", dict := none, data := .set #[] 0 (.fresh 0 0 z) }).get? l = some { cls := .type T, dict := od, data := .seq its nl, slots := os } := Heap.get?_push_of_some _ hol
        unfold Builtin.«set.__init__» noKeywords Builtin.Frozenset.updateFrom; generalize hPI : pyIter = PI; wp_walk; subst hPI
        refine hIt _ _ _ _ hol' ?_; refine wpAny_bind (wpAny_runValue ?_)
        have lS : l < s.heap.objs.size := Heap.lt_size hol; have hh3 : A.in1.in1.in1.handled = none := by simp [hh]
        have neI : l ≠ (s.heap.push { cls := .type "set", dict := none, data := .set #[] 0 (.fresh 0 0 z) }).objs.size := by rw [Heap.size_push]; exact Nat.ne_of_lt (Nat.lt_succ_of_lt lS)
        have nS : s.heap.objs.size ∉ [(s.heap.push { cls := .type "set", dict := none, data := .set #[] 0 (.fresh 0 0 z) }).objs.size, l] := by rw [Heap.size_push]; simp only [List.mem_cons, List.not_mem_nil, or_false, not_or]; exact ⟨Nat.ne_of_lt (Nat.lt_succ_self _), Nat.ne_of_gt lS⟩
        have hz : xs.length = its.size := by rw [← PyProof.Rows.StrsAre.len_eq hi, Array.length_toList]
        have hv : ∀ (i : Nat) (v : Value), its[i]? = some v → ∃ t, v = .str (xs.getD i PySem.Str.empty) t := fun i v e => SS.strs_at hi i v (by rw [Array.getElem?_toList]; exact e)
        refine set_loopS ((W _ hh3 _ neI).toS) s.heap.objs.size nS xs hz (by omega) hv its.size 0 _ rfl (h0 _ _ (Heap.get?_push_of_some _ hol') (Heap.get?_push_size _ rfl)) ?_ ?_
        · have hg : ((s.heap.push { cls := .type "set", dict := none, data := .set #[] 0 (.fresh 0 0 z) }).push { cls := itC, data := .fields #[.ref l, .int 0 0] }).get? s.heap.objs.size = some { cls := .type "set", dict := none, data := .set #[] 0 (.fresh 0 0 z) } := Heap.get?_push_of_some _ hS
          exact PyProof.Rows.SetOf_congr ((PyProof.Rows.setObjOf_fresh (knd := PySem.strKind P w) z).setOf hg (by unfold scanBound; omega)) (fun _ => rfl) rfl
        · rintro ⟨h', g', d', tk', os'⟩ mv hS2
          obtain rfl : g' = s.gens := mv.gens; obtain rfl : d' = s.drawn := mv.drawn; obtain rfl : os' = s.os := mv.os
          show wpAny _ _ _ _ _ _; refine wpAny_pure ?_; show wpAny _ _ (ret Value.none) _ _ _
          refine wpAny_pure ⟨rfl, h', tk', rfl, hS2, fun b o hb e => mv.heap b o ?_ (Heap.get?_push_of_some _ (Heap.get?_push_of_some _ e))⟩
          rw [Heap.size_push]; simp only [List.mem_cons, List.not_mem_nil, or_false, not_or]; exact ⟨Nat.ne_of_lt hb, Nat.ne_of_lt (Nat.lt_succ_of_lt hb)⟩
      · cases r2 with
        | error e => exact hr2
        | ok fl2 =>
          cases fl2 with
          | ret r =>
            obtain ⟨rfl, h', tk, rfl, hS2, hk⟩ := hr2
            repeat (any_goals (first | assumption | wp_step))
            exact h _ _ hS2 hk
          | _ => exact hr2.elim
    | _ => exact hr.elim
theorem set_of_l {l : Addr} {its : Array Value} {xs : List PySem.Str} {Q : Value → Shared → Prop} (hh : A.handled = none) (hl : s.heap.IsList l its) (hi : PyProof.Rows.StrsAre its.toList xs) (hm : xs.length ≤ 1000)
    (h : ∀ (h' : Heap) (tk : Nat), h'.SetOf (PySem.strKind P w) s.heap.objs.size (inP xs its.size) (cntP xs its.size) → (∀ b o, b < s.heap.objs.size → s.heap.get? b = some o → h'.get? b = some o) → Q (.ref s.heap.objs.size) { s with heap := h', toks := tk }) : wpAny (model P w) A (call (.type "set") [.ref l]) Q E s := by
  obtain ⟨⟨oc, od, odt, os⟩, hol, hcl, nl, hdl⟩ := hl
  simp only at hcl hdl; subst hcl; subst hdl
  exact set_of_any (St := fun I i h => h.IsListIter I l i ∧ h.IsList l its) hh PySem.F.sub_list_set PySem.F.sub_list_frozenset (by decide) (fun s' A' Q E e q => wpAny_pyIter_list (items := its) ⟨_, e, rfl, nl, rfl⟩ q) (fun A' hA I ne => Walks.list hA I l ne its) (fun hp I e1 e2 => ⟨⟨_, e2, rfl, rfl⟩, ⟨_, e1, rfl, nl, rfl⟩⟩) hol hi hm h
theorem set_of_t {l : Addr} {its : Array Value} {xs : List PySem.Str} {Q : Value → Shared → Prop} (hh : A.handled = none) (hl : s.heap.IsTuple l its) (hi : PyProof.Rows.StrsAre its.toList xs) (hm : xs.length ≤ 1000)
    (h : ∀ (h' : Heap) (tk : Nat), h'.SetOf (PySem.strKind P w) s.heap.objs.size (inP xs its.size) (cntP xs its.size) → (∀ b o, b < s.heap.objs.size → s.heap.get? b = some o → h'.get? b = some o) → Q (.ref s.heap.objs.size) { s with heap := h', toks := tk }) : wpAny (model P w) A (call (.type "set") [.ref l]) Q E s := by
  obtain ⟨⟨oc, od, odt, os⟩, hol, hcl, nl, hdl⟩ := hl
  simp only at hcl hdl; subst hcl; subst hdl
  exact set_of_any (St := fun I i h => h.IsTupleIter I l i ∧ h.IsTuple l its) hh PySem.F.sub_tuple_set PySem.F.sub_tuple_frozenset (by decide) (fun s' A' Q E e q => wpAny_pyIter_tuple (items := its) ⟨_, e, rfl, nl, rfl⟩ q) (fun A' hA I ne => Walks.tuple hA I l ne its) (fun hp I e1 e2 => ⟨⟨_, e2, rfl, rfl⟩, ⟨_, e1, rfl, nl, rfl⟩⟩) hol hi hm h
end
def tLenSetS (K : PySem.W.Frag) (ta : L2.TE) : L2.TE := fun σ H Q => ta σ H fun x H1 => ∃ l, ∃ xs : List PySem.Str, x = .ref l ∧ (SqL K H1 l (xs.map V.str) ∨ SqT K H1 l (xs.map V.str)) ∧ xs.length ≤ 1000 ∧ Q (.int (dcnt xs.reverse)) H1
theorem pe_lenSetS {X : Cx} {a : Expr} {ta : L2.TE} {p p2 q pos : Pos} (hc : X.calm = true) (g1 : Gl X "len") (m1 : X.mg "len" = none) (g2 : Gl X "set") (m2 : X.mg "set" = none) (ha : PE X a ta)
    (na : starEach [a] X.env = (false, eval a X.env) :: starEach [] X.env) : PE X (.Call (.Name "len" p) [.Call (.Name "set" p2) [a] [] q] [] pos) (tLenSetS X.K ta) := by
  refine ⟨fun pins s σ H Q I h => Call_ (ld_blt I g1 m1 boot_len (PyProof.Rows.callWith_builtin1 (PyProof.Rows.args_cons (Call_ (ld_blt I g2 m2 boot_set (PyProof.Rows.callWith_type1 (PyProof.Rows.args_cons (thn (ha.run pins s σ H _ I h) fun v s1 ⟨x, H1, I1, r1, q1⟩ => PyProof.Rows.args_nil ?_) na) na rfl))) rfl) rfl rfl))⟩
  obtain ⟨l, xs, rfl, hq, hm, q1⟩ := q1
  cases r1
  have fin : ∀ (its : List Value), Vals (xs.map V.str) its → ∀ (h' : Heap) (tk : Nat), h'.SetOf (PySem.strKind X.prog X.w) s1.heap.objs.size (inP xs its.toArray.size) (cntP xs its.toArray.size) → (∀ b o, b < s1.heap.objs.size → s1.heap.get? b = some o → h'.get? b = some o) →
      wpAny (model X.prog X.w) X.A (spliced (backTo pos (starEach [] X.env))) (fun vs s₂ => wpAny (model X.prog X.w) X.A (call (.builtin "len") (Value.ref s1.heap.objs.size :: vs)) (EP X pins σ Q) X.xe s₂) X.xe { s1 with heap := h', toks := tk } := fun its r h' tk hS hk => by
    refine PyProof.Rows.args_nil ?_
    have hl : its.toArray.size = xs.length := by rw [List.size_toArray, ← r.length, List.length_map]
    have e0 : cntP xs its.toArray.size = dcnt xs.reverse := by unfold cntP; rw [hl, List.take_length]
    have cl := dcnt_le xs.reverse
    rw [List.length_reverse] at cl
    rw [e0] at hS
    obtain ⟨o, es, ep, t, ho, hex, hd, _, _, _, hf, hn⟩ := hS
    have I2 : Inv X pins σ H1 { s1 with heap := h', toks := tk } := I1.kept fun b o e => hk b o (Heap.lt_size e) e
    exact call_len_set ho hex hd hf (by rw [hn]; omega) ⟨.int (dcnt xs.reverse), H1, I2.tok _, ⟨_, by rw [hn]⟩, q1⟩
  rcases hq with hq | hq
  · obtain ⟨its, r, pl, hz⟩ := I1.list hq
    exact set_of_l (I1.ok.hd hc) pl.isList (by simpa using L2.strsAre_of r) hm fun h' tk hS hk => fin its r h' tk hS hk
  · obtain ⟨its, r, pl, hz⟩ := I1.tuple hq
    exact set_of_t (I1.ok.hd hc) pl (by simpa using L2.strsAre_of r) hm fun h' tk hS hk => fin its r h' tk hS hk
end Z

/-! ### Z: an abstract machine: tuples are values, lists, dicts and objects have numbers -/
namespace Z
open PySem L2
inductive A where
  | non | bl (b : Bool) | int (i : Int) | str (z : PySem.Str) | tup (xs : List A) | ref (n : Nat) | fro (xs : List A) | kt (xs : List A) | fn (x : String)
inductive O where
  | lst (xs : List A) | dK (kvs : List (Key × A)) | dT (kvs : List (List Key × A)) | ins (C : String) (fs : List (String × A))
abbrev Hh := List O
abbrev SA := List (Option A)
abbrev QV := A → Hh → Prop
abbrev QL := List A → Hh → Prop
abbrev XQ := Bool → String → List (String × A) → Hh → Prop
abbrev GQ := List A → Hh → QV → XQ → Prop
inductive Fid where | d (x : String) | m (C m : String)
/-- what of the built-in functions is known -/
inductive Bf where
  | len | max | min | list | tuple | int | str | abs | sum | any | all | sorted | repr | divmod | bool | lenset | dict
deriving DecidableEq
inductive Bm where
  | append | extend | pop | popat | reverse | clear | insert | indexL | indexT | indexS | join | split | startswith | upper | strip | rstripC | get1 | get2 | setdefault | popD1 | items | values | keys
deriving DecidableEq
/-- functions within functions -/
inductive Bxf where | listR | listRev | lenset
deriving DecidableEq
def Bm.T : Bm → String
  | .append => "list" | .extend => "list" | .pop => "list" | .popat => "list" | .reverse => "list" | .clear => "list" | .insert => "list" | .indexL => "list" | .indexT => "tuple" | .indexS => "str" | .join => "str" | .split => "str" | .startswith => "str" | .upper => "str" | .strip => "str" | .rstripC => "str"
  | _ => "dict"
inductive Tg where | nm (i : Nat) | tp (ts : List Tg)
mutual
inductive E where
  | var (i : Nat) | cst (v : A) | glob (x : String)
  | bin (op : Operator) (a b : E) | cmp (op : CmpOp) (a b : E) | ch2 (o p : CmpOp) (a b c : E) | ch3 (o p q : CmpOp) (a b c d : E)
  | neg (a : E) | and (as : Es) | or (as : Es) | not (a : E) | ite (c a b : E)
  | idx (a b : E) | slc (a lo hi : E) | rev (a : E) | no
  | tup (as : Es) | lst (as : Es) | dnew (t : Bool) | dsp (ks : List PySem.Str) (as : Es)
  | call (f : String) (as : Es) | callv (i : Nat) (as : Es) | blt (f : Bf) (as : Es) | bx (f : Bxf) (as : Es) | isi (a : E) (cs : List String)
  | meth (o : E) (m : String) (as : Es) | bm (m : Bm) (o : E) (as : Es) | mk (C : String) (as : Es) | fld (o : E) (f : String)
  | lc (vs : List Nat) (tg : Tg) (it : I) (c elt : E)
  | xfld (f : String) | xis (ds : List String) | fnv (x : String) | tix (o a : E)
inductive Es where | nil | cons (a : E) (as : Es)
inductive I where | ex (e : E) | rng (as : Es) | enm (e : E) | zip (a b : E) | rev (e : E) | revR (as : Es) | items (e : E) | keys (e : E) | values (e : E)
end
mutual
inductive S where
  | set (i : Nat) (e : E) | asg (tg : Tg) (e : E) | par (is : List Nat) (as : Es) | sub (o i e : E) | fld (o : E) (f : String) (e : E)
  | aug (i : Nat) (op : Operator) (e : E) | augF (o : E) (f : String) (op : Operator) (e : E)
  | ite (c : E) (a b : Ss) | for (tg : Tg) (it : I) (b : Ss) | while (c : E) (b : Ss)
  | parS (o i p j : E) (as : Es) | ret (e : E) | retN | ex (e : E) | raise (x : String) (as : Es) | pass | brk | cont | bad
  | try (b : Ss) (hs : Hs) (el : Ss)
inductive Ss where | nil | cons (s : S) (r : Ss)
/-- except clauses: the classes, whether the error has a name, the suite: what it does, or raise X(..) from None, or raise -/
inductive Hs where | nil | cons (cs : List String) (sl : Option Nat) (b : Ss) (r : Hs) | thrw (cs : List String) (x : String) (as : Es) (r : Hs) | again (cs : List String) (b : Ss) (r : Hs)
end
def Es.len : Es → Nat
  | .nil => 0
  | .cons _ r => r.len + 1
structure Fn where
  ps : List String
  n : Nat
  /-- how many of them may be left out, being None -/
  df : Nat
  body : Ss
structure Pg where
  d : String → Option Fn
  m : String → String → Option Fn
  /-- a class and all above it -/
  up : String → List String
  /-- an error's fields -/
  er : String → Option (List String)
  /-- a constant -/
  c : String → Option A
  /-- the fields of a class's objects -/
  fl : String → List String
  /-- names of classes that isinstance may ask for -/
  cn : String → Bool

def btypes : List String := ["bool", "int", "str", "list", "tuple", "dict", "ValueError"]
/-- what except may name -/
def hsOk (pg : Pg) : Hs → Bool
  | .nil => true
  | .cons cs _ _ r => cs.all (fun d => pg.cn d && !btypes.contains d) && hsOk pg r
  | .thrw cs _ _ r => cs.all (fun d => pg.cn d && !btypes.contains d) && hsOk pg r
  | .again cs _ r => cs.all (fun d => pg.cn d && !btypes.contains d) && hsOk pg r
/-! ### data -/
def keyD : Key → PyData
  | .inl i => .int i
  | .inr z => .str z
mutual
inductive Da (h : Hh) : A → PyData → Prop
  | non : Da h .non .none
  | bl (b : Bool) : Da h (.bl b) (.bool b)
  | int (i : Int) : Da h (.int i) (.int i)
  | str (z : PySem.Str) : Da h (.str z) (.str z)
  | tup {xs : List A} {ds : List PyData} : DaL h xs ds → Da h (.tup xs) (.tuple ds)
  | fro {xs : List A} {ds : List PyData} : DaL h xs ds → Da h (.fro xs) (.list ds)
  | kt {xs : List A} {ds : List PyData} : DaL h xs ds → Da h (.kt xs) (.tuple ds)
  | lst {n : Nat} {xs : List A} {ds : List PyData} : h[n]? = some (.lst xs) → DaL h xs ds → Da h (.ref n) (.list ds)
  | dct {n : Nat} {kvs : List (Key × A)} {ds : List PyData} : h[n]? = some (.dK kvs) → DaL h (kvs.map (·.2)) ds → Da h (.ref n) (.dict ((kvs.map fun p => keyD p.1).zip ds))
inductive DaL (h : Hh) : List A → List PyData → Prop
  | nil : DaL h [] []
  | cons {x : A} {xs : List A} {d : PyData} {ds : List PyData} : Da h x d → DaL h xs ds → DaL h (x :: xs) (d :: ds)
end
/-- what may be walked and read as a list; as a tuple -/
inductive Ls (h : Hh) : A → List A → Prop
  | ref {n : Nat} {xs : List A} : h[n]? = some (.lst xs) → Ls h (.ref n) xs
  | fro {xs : List A} : Ls h (.fro xs) xs
def new (h : Hh) (o : O) (Q : QV) : Prop := Q (.ref h.length) (h ++ [o])
def sc : A → A → Option Bool
  | .non, .non => some true
  | .bl a, .bl b => some (a == b)
  | .int a, .int b => some (decide (a = b))
  | .str a, .str b => some (decide (a = b))
  | .non, .bl _ | .non, .int _ | .non, .str _ | .bl _, .non | .int _, .non | .str _, .non => some false
  | .str _, .int _ | .int _, .str _ | .str _, .bl _ | .bl _, .str _ => some false
  | .bl a, .int b => some (decide ((if a then 1 else 0) = b))
  | .int a, .bl b => some (decide (a = (if b then 1 else 0)))
  | _, _ => none
/-- a dict by keys beside a whole number or a text; lists of unlike lengths -/
def dctI (x y : A) (h : Hh) : Prop := (∃ n i kvs, x = .ref n ∧ y = .int i ∧ h[n]? = some (.dK kvs)) ∨ (∃ n z kvs, x = .ref n ∧ y = .str z ∧ h[n]? = some (.dK kvs)) ∨ ∃ n m xs ys, x = .ref n ∧ y = .ref m ∧ h[n]? = some (.lst xs) ∧ h[m]? = some (.lst ys) ∧ xs.length ≠ ys.length
def eqW (x y : A) (h : Hh) (Q : Bool → Prop) : Prop := match sc x y with
  | some b => Q b
  | none => (dctI x y h ∧ Q false) ∨ ∃ d e, Da h x d ∧ Da h y e ∧ SeqAt.shaped d = true ∧ SeqAt.shaped e = true ∧ Q (PyData.eqv d e)
/-- keys -/
def keyOf : A → Option Key
  | .int i => some (.inl i)
  | .str z => some (.inr z)
  | _ => none
def tkOf : A → Option (List Key)
  | .tup xs => xs.mapM keyOf
  | _ => none
def getA {κ : Type} [DecidableEq κ] : List (κ × A) → κ → Option A
  | [], _ => none
  | (k, v) :: r, x => if k = x then some v else getA r x
def putD {κ : Type} [DecidableEq κ] (x : κ) (v : A) (kvs : List (κ × A)) : List (κ × A) := if (kvs.any fun p => decide (p.1 = x)) = true then kvs.map (fun p => if p.1 = x then (p.1, v) else p) else kvs ++ [(x, v)]
def dspK (ks : List PySem.Str) (xs : List A) : List (Key × A) := (ks.zip xs).foldl (fun acc p => putD (Sum.inr p.1) p.2 acc) []
/-- x in ys -/
def inSq (x : A) (ys : List A) (h : Hh) (Q : Bool → Prop) : Prop := ∃ d ds, Da h x d ∧ DaL h ys ds ∧ SeqAt.shaped d = true ∧ SeqAt.shaped (.list ds) = true ∧ Q (ds.any fun e => PyData.eqv e d)
def inW (x y : A) (h : Hh) (Q : Bool → Prop) : Prop := match y with
  | .str z => ∃ c : Nat, x = .str ⟨#[c]⟩ ∧ Q (decide (c ∈ z.cps.toList))
  | .tup ys => inSq x ys h Q
  | .fro ys => inSq x ys h Q
  | .kt ys => inSq x ys h Q
  | .ref n => match h[n]? with
    | some (.lst ys) => inSq x ys h Q
    | some (.dK kvs) => ∃ k, keyOf x = some k ∧ Q (getA kvs k).isSome
    | some (.dT kvs) => ∃ k, tkOf x = some k ∧ Q (getA kvs k).isSome
    | _ => False
  | _ => False
def A.isN : A → Bool
  | .non => true
  | _ => false
def isW (x y : A) (Q : Bool → Prop) : Prop := match y with
  | .non => Q x.isN
  | .bl b => match x with
    | .bl c => Q (decide (c = b))
    | _ => False
  | _ => False
def cmpW (op : CmpOp) (x y : A) (h : Hh) (Q : Bool → Prop) : Prop := match op with
  | .Eq => eqW x y h Q
  | .NotEq => eqW x y h fun b => Q (!b)
  | .In => inW x y h Q
  | .NotIn => inW x y h fun b => Q (!b)
  | .Is => isW x y Q
  | .IsNot => isW x y fun b => Q (!b)
  | .Lt => match x, y with
    | .int i, .int j => Q (decide (i < j))
    | .str i, .str j => Q (decide (i.cps.toList < j.cps.toList))
    | _, _ => False
  | .LtE => match x, y with | .int i, .int j => Q (decide (i ≤ j)) | _, _ => False
  | .Gt => match x, y with | .int i, .int j => Q (decide (j < i)) | _, _ => False
  | .GtE => match x, y with | .int i, .int j => Q (decide (j ≤ i)) | _, _ => False
def binW (op : Operator) (x y : A) (h : Hh) (Q : QV) : Prop := match op, x, y with
  | .Add, .int i, .int j => Q (.int (i + j)) h
  | .Add, .str i, .str j => i.length + j.length ≤ sizeLine ∧ Q (.str (i ++ j)) h
  | .Add, .ref n, .ref m => ∃ xs ys, h[n]? = some (.lst xs) ∧ h[m]? = some (.lst ys) ∧ xs.length + ys.length ≤ sizeLine ∧ new h (.lst (xs ++ ys)) Q
  | .Add, .tup xs, .tup ys => xs.length + ys.length ≤ sizeLine ∧ Q (.tup (xs ++ ys)) h
  | .Add, .kt xs, .tup ys => xs ≠ [] ∧ ys ≠ [] ∧ xs.length + ys.length ≤ sizeLine ∧ Q (.tup (xs ++ ys)) h
  | .Add, .tup xs, .kt ys => xs ≠ [] ∧ ys ≠ [] ∧ xs.length + ys.length ≤ sizeLine ∧ Q (.tup (xs ++ ys)) h
  | .Sub, .int i, .int j => Q (.int (i - j)) h
  | .Mult, .int i, .int j => (CMul i j ∨ CMulW i j) ∧ Q (.int (i * j)) h
  | .Mult, .ref n, .int k => ∃ xs, h[n]? = some (.lst xs) ∧ -(2 ^ 63) ≤ k ∧ k < 2 ^ 63 ∧ xs.length * k.toNat ≤ sizeLine ∧ new h (.lst (List.replicate k.toNat xs).flatten) Q
  | .Mult, .tup xs, .int k => xs ≠ [] ∧ 2 ≤ k ∧ k ≤ 1000 ∧ xs.length ≤ 1000 ∧ Q (.tup (List.replicate k.toNat xs).flatten) h
  | .Mult, .str z, .int k => PySem.MulOk z k ∧ Q (.str (Txt.mul z k)) h
  | .FloorDiv, .int i, .int j => CDivW i j ∧ Q (.int (i / j)) h
  | .Mod, .int i, .int j => 0 < j ∧ Q (.int (i % j)) h
  | .Pow, .int i, .int j => CPow i j ∧ Q (.int (i ^ j.toNat)) h
  | .LShift, .int i, .int j => CPow i j ∧ Q (.int (i * 2 ^ j.toNat)) h
  | .RShift, .int i, .int j => 0 ≤ j ∧ Q (.int (i / 2 ^ j.toNat)) h
  | .BitAnd, .int i, .int j => Q (.int (Builtin.bitAnd i j)) h
  | .BitOr, .int i, .int j => Q (.int (Builtin.bitOr i j)) h
  | .BitXor, .int i, .int j => Q (.int (Builtin.bitXor i j)) h
  | _, _, _ => False
def idxW (x y : A) (h : Hh) (Q : QV) : Prop := match x, y with
  | .tup xs, .int i => ∃ v, atI xs i = some v ∧ Q v h
  | .fro xs, .int i => ∃ v, atI xs i = some v ∧ Q v h
  | .kt xs, .int i => ∃ v, atI xs i = some v ∧ Q v h
  | .str z, .int i => z.length ≤ sizeLine ∧ ∃ c, atI z.cps.toList i = some c ∧ Q (.str ⟨#[c]⟩) h
  | .ref n, y => match h[n]? with
    | some (.lst xs) => ∃ i v, y = .int i ∧ atI xs i = some v ∧ Q v h
    | _ => False
  | _, _ => False
def cutA {α : Type} (xs : List α) (lo hi : Option Int) : List α := (xs.drop (HT.sIx xs.length 0 lo)).take (HT.sIx xs.length xs.length hi - HT.sIx xs.length 0 lo)
def slcW (x : A) (lo hi : Option Int) (h : Hh) (Q : QV) : Prop := match x with
  | .tup xs => Q (.tup (cutA xs lo hi)) h
  | .kt xs => ¬ (HT.sIx xs.length 0 lo = 0 ∧ HT.sIx xs.length xs.length hi = xs.length) ∧ Q (.tup (cutA xs lo hi)) h
  | .ref n => ∃ xs, h[n]? = some (.lst xs) ∧ new h (.lst (cutA xs lo hi)) Q
  | .fro xs => new h (.lst (cutA xs lo hi)) Q
  | .str z => z.length ≤ sizeLine ∧ Q (.str (cutS z lo hi)) h
  | _ => False
/-- a store at an index or a key -/
def subW (x y v : A) (h : Hh) (Q : Hh → Prop) : Prop := match x with
  | .ref n => match h[n]? with
    | some (.lst xs) => ∃ k j, y = .int k ∧ ixN xs.length k = some j ∧ Q (h.set n (.lst (xs.set j v)))
    | some (.dK kvs) => ∃ k, keyOf y = some k ∧ kvs.length < sizeLine ∧ Q (h.set n (.dK (putD k v kvs)))
    | some (.dT kvs) => ∃ k, tkOf y = some k ∧ kvs.length < sizeLine ∧ Q (h.set n (.dT (putD k v kvs)))
    | _ => False
  | _ => False
/-- what the kinds are for isinstance -/
def kindA (h : Hh) : A → Option String
  | .non => some "NoneType" | .bl _ => some "bool" | .int _ => some "int" | .str _ => some "str" | .tup _ => some "tuple" | .kt _ => some "tuple" | .fro _ => some "list"
  | .ref n => match h[n]? with
    | some (.lst _) => some "list" | some (.dK _) => some "dict" | some (.dT _) => some "dict" | some (.ins C _) => some C | none => none
  | .fn _ => none
def isB (pg : Pg) (k c : String) : Bool := k == c || (k == "bool" && c == "int") || (pg.up k).contains c
/-! ### built-in functions and methods -/
def prA (p : Int × Int) : A := .tup [.int p.1, .int p.2]
/-- ints, or pairs of ints, in their order -/
def sortW (xs : List A) (h : Hh) (Q : QV) : Prop :=
  (∃ ns : List Int, xs = ns.map A.int ∧ ∀ ms : List Int, ms.Perm ns → ms.Pairwise (· ≤ ·) → new h (.lst (ms.map A.int)) Q) ∨
  (∃ ps : List (Int × Int), xs = ps.map prA ∧ ∀ qs : List (Int × Int), qs.Perm ps → qs.Pairwise (fun p q => SrtO.lexB q p = false) → new h (.lst (qs.map prA)) Q)
def reprW (x : A) (h : Hh) (Q : QV) : Prop := ∃ d, Da h x d ∧ d.showable = true ∧ d.depth ≤ 60 ∧ d.shown.length ≤ sizeLine ∧ Q (.str d.shown) h
def bltW (f : Bf) (as : List A) (h : Hh) (Q : QV) : Prop := match f, as with
  | .len, [.str z] => z.length ≤ sizeLine ∧ Q (.int z.length) h
  | .len, [.tup xs] => Q (.int xs.length) h
  | .len, [.fro xs] => Q (.int xs.length) h
  | .len, [.kt xs] => Q (.int xs.length) h
  | .len, [.ref n] => match h[n]? with
    | some (.lst xs) => Q (.int xs.length) h
    | some (.dK kvs) => Q (.int kvs.length) h
    | some (.dT kvs) => Q (.int kvs.length) h
    | _ => False
  | .max, [.int i, .int j] => Q (.int (if j > i then j else i)) h
  | .min, [.int i, .int j] => Q (.int (if j < i then j else i)) h
  | .list, [.tup xs] => new h (.lst xs) Q
  | .list, [.fro xs] => new h (.lst xs) Q
  | .list, [.kt xs] => new h (.lst xs) Q
  | .list, [.ref n] => ∃ xs, h[n]? = some (.lst xs) ∧ new h (.lst xs) Q
  | .list, [.str z] => z.length ≤ sizeLine ∧ new h (.lst ((z.cps.toList.map fun c => (⟨#[c]⟩ : PySem.Str)).map A.str)) Q
  | .tuple, [.tup xs] => Q (.tup xs) h
  | .tuple, [.fro xs] => Q (.tup xs) h
  | .tuple, [.kt xs] => Q (.kt xs) h
  | .tuple, [.ref n] => ∃ xs, h[n]? = some (.lst xs) ∧ (Q (.tup xs) h ∨ Q (.kt xs) h)
  | .int, [.int i] => Q (.int i) h
  | .int, [.bl b] => Q (.int (if b then 1 else 0)) h
  | .int, [.str z] => ∃ n, intText? z = some n ∧ z.length ≤ 640 ∧ Q (.int n) h
  | .str, [.str z] => Q (.str z) h
  | .str, [.int i] => i.natAbs.log2 < 1920 ∧ Q (.str (toString i)) h
  | .sum, [.ref n] => ∃ ns : List Int, h[n]? = some (.lst (ns.map A.int)) ∧ Q (.int ns.sum) h
  | .any, [.ref n] => ∃ bs : List Bool, h[n]? = some (.lst (bs.map A.bl)) ∧ Q (.bl (bs.any id)) h
  | .all, [.ref n] => ∃ bs : List Bool, h[n]? = some (.lst (bs.map A.bl)) ∧ Q (.bl (bs.all id)) h
  | .sorted, [.tup xs] => sortW xs h Q
  | .sorted, [.ref n] => (∃ xs, h[n]? = some (.lst xs) ∧ sortW xs h Q) ∨ ∃ (kvs : List (Key × A)) (ns : List Int), h[n]? = some (.dK kvs) ∧ kvs.map (·.1) = ns.map Sum.inl ∧ ns.length < 64 ∧ ∀ ms : List Int, ms.Perm ns → ms.Pairwise (· ≤ ·) → new h (.lst (ms.map A.int)) Q
  | .repr, [x] => reprW x h Q
  | .divmod, [.int i, .int j] => CDiv i j ∧ Q (.tup [.int (i / j), .int (i % j)]) h
  | _, _ => False
def sqL (x : A) (h : Hh) (xs : List A) : Prop := match x with
  | .fro ys => ys = xs
  | .ref n => h[n]? = some (.lst xs)
  | _ => False
/-- a list or a tuple of these things -/
def sqW (x : A) (h : Hh) (xs : List A) : Prop := match x with
  | .tup ys => ys = xs
  | .kt ys => ys = xs
  | .fro ys => ys = xs
  | .ref n => h[n]? = some (.lst xs)
  | _ => False
def bmW (m : Bm) (o : A) (as : List A) (h : Hh) (Q : QV) : Prop := match m, o, as with
  | .append, .ref n, [x] => ∃ xs, h[n]? = some (.lst xs) ∧ xs.length < sizeLine ∧ Q .non (h.set n (.lst (xs ++ [x])))
  | .extend, .ref n, [.ref k] => ∃ xs ys, h[n]? = some (.lst xs) ∧ h[k]? = some (.lst ys) ∧ xs.length + ys.length ≤ sizeLine ∧ Q .non (h.set n (.lst (xs ++ ys)))
  | .pop, .ref n, [] => ∃ xs x, h[n]? = some (.lst xs) ∧ xs[xs.length - 1]? = some x ∧ Q x (h.set n (.lst xs.dropLast))
  | .popat, .ref n, [.int i] => ∃ xs k x, h[n]? = some (.lst xs) ∧ -(2 ^ 63) ≤ i ∧ i < 2 ^ 63 ∧ seqIndex? i xs.length = some k ∧ xs[k]? = some x ∧ Q x (h.set n (.lst (xs.eraseIdx k)))
  | .reverse, .ref n, [] => ∃ xs, h[n]? = some (.lst xs) ∧ Q .non (h.set n (.lst xs.reverse))
  | .clear, .ref n, [] => ∃ xs, h[n]? = some (.lst xs) ∧ Q .non (h.set n (.lst []))
  | .insert, .ref n, [.int i, x] => ∃ xs, h[n]? = some (.lst xs) ∧ xs.length < sizeLine ∧ 0 ≤ i ∧ i < 2 ^ 63 ∧ Q .non (h.set n (.lst (xs.take i.toNat ++ x :: xs.drop i.toNat)))
  | .indexL, x, [.str y] => ∃ (ys : List PySem.Str) (j : Nat), sqL x h (ys.map A.str) ∧ ys[j]? = some y ∧ (∀ m : Nat, m < j → ys[m]? ≠ some y) ∧ Q (.int (j : Nat)) h
  | .indexT, .kt xs, [.str y] => ∃ (ys : List PySem.Str) (j : Nat), xs = ys.map A.str ∧ ys[j]? = some y ∧ (∀ m : Nat, m < j → ys[m]? ≠ some y) ∧ Q (.int (j : Nat)) h
  | .indexS, .str z, [.str y] => ∃ i rest, Builtin.Str.occurrences z y 0 z.length 1 = i :: rest ∧ Q (.int (i : Nat)) h
  | .join, .str z, [x] => ∃ ys : List PySem.Str, sqW x h (ys.map A.str) ∧ (ys.map (·.length)).sum + ys.length * z.length ≤ 16777216 ∧ Q (.str (Txt.join z ys)) h
  | .split, .str z, [.str y] => (y.length == 0) = false ∧ z.length + 2 ≤ sizeLine ∧ new h (.lst ((Txt.split z y).map A.str)) Q
  | .startswith, .str z, [.str y] => Q (.bl (Txt.startswith z y)) h
  | .upper, .str z, [] => z.length ≤ 5592405 ∧ Q (.str (Txt.upper z)) h
  | .strip, .str z, [] => z.length ≤ sizeLine ∧ Q (.str (Txt.strip z)) h
  | .rstripC, .str z, [.str y] => z.length ≤ sizeLine ∧ Q (.str (Txt.rstripChars z y)) h
  | _, _, _ => False
/-! ### targets, sources -/
mutual
def tgW : Tg → A → SA → (SA → Prop) → Prop
  | .nm i, v, σ, Q => Q (σ.set i (some v))
  | .tp ts, v, σ, Q => ∃ xs, v = .tup xs ∧ tgsW ts xs σ Q
def tgsW : List Tg → List A → SA → (SA → Prop) → Prop
  | [], xs, σ, Q => xs = [] ∧ Q σ
  | t :: ts, xs, σ, Q => ∃ x r, xs = x :: r ∧ tgW t x σ fun σ' => tgsW ts r σ' Q
end
/-- an assignment to several targets: of a tuple, or of a list -/
def asgT (tg : Tg) (x : A) (h : Hh) (σ : SA) (Q : SA → Prop) : Prop := tgW tg x σ Q ∨ ∃ ts n xs, tg = .tp ts ∧ x = .ref n ∧ h[n]? = some (.lst xs) ∧ tgsW ts xs σ Q
/-- what a walk leans on: these lists stay as they are -/
abbrev Gd := List (Nat × List A)
def gdOk (G : Gd) (h : Hh) : Prop := ∀ p ∈ G, h[p.1]? = some (.lst p.2)
def wipeA (σ : SA) : List Nat → SA
  | [] => σ
  | v :: vs => (wipeA σ vs).set v none
def slOk (sl : Option Nat) (σ : SA) : Prop := match sl with
  | none => True
  | some i => i < σ.length
/-- an error's name goes -/
def unsl (sl : Option Nat) (σ : SA) : SA := match sl with
  | none => σ
  | some i => σ.set i none
/-- what is wanted behind a statement -/
def putA (f : String) (v : A) : List (String × A) → List (String × A)
  | [] => [(f, v)]
  | (k, w) :: r => if k = f then (f, v) :: r else (k, w) :: putA f v r
structure En where
  nx : SA → Hh → Prop
  rt : QV
  bk : SA → Hh → Prop
  ct : SA → Hh → Prop
abbrev XS := Bool → String → List (String × A) → SA → Hh → Prop
def forA (G : Gd) (st : A → En → SA → Hh → Prop) : List A → En → SA → Hh → Prop
  | [], D, σ, h => gdOk G h ∧ D.nx σ h
  | x :: xs, D, σ, h => gdOk G h ∧ st x { D with nx := forA G st xs D, ct := forA G st xs D, bk := D.nx } σ h
def lcA (G : Gd) (D : Nat) (st : A → Hh → (Option A → Hh → Prop) → Prop) (Q : Hh → Prop) : List A → Hh → Prop
  | [], h => gdOk G h ∧ Q h
  | x :: xs, h => gdOk G h ∧ st x h fun o h1 => match o with
    | none => lcA G D st Q xs h1
    | some y => ∃ acc, h1[D]? = some (.lst acc) ∧ acc.length < sizeLine ∧ lcA G D st Q xs (h1.set D (.lst (acc ++ [y])))
def whA (c : SA → Hh → (Bool → Hh → Prop) → Prop) (b : En → SA → Hh → Prop) : Nat → En → SA → Hh → Prop
  | 0, _, _, _ => False
  | n + 1, D, σ, h => c σ h fun k h1 => if k = true then b { D with nx := whA c b n D, ct := whA c b n D, bk := D.nx } σ h1 else D.nx σ h1
def rngA (lo : Int) (n : Nat) : List A := (List.range n).map fun i => A.int (lo + (i : Nat))
def rngC (lo c : Int) (n : Nat) : List A := (List.range n).map fun i => A.int (lo + (i : Nat) * c)
def enA (xs : List A) : List A := (xs.zipIdx).map fun p => A.tup [.int (p.2 : Nat), p.1]
def zipA (xs ys : List A) : List A := (xs.zip ys).map fun p => A.tup [p.1, p.2]
def b62 (i : Int) : Prop := -(2 ^ 62) ≤ i ∧ i < 2 ^ 62
def srcW (x : A) (h : Hh) (R : Gd → List A → Prop) : Prop := match x with
  | .tup xs => R [] xs
  | .fro xs => R [] xs
  | .kt xs => R [] xs
  | .str z => R [] (z.cps.toList.map fun c => A.str ⟨#[c]⟩)
  | .ref n => ∃ xs, h[n]? = some (.lst xs) ∧ R [(n, xs)] xs
  | _ => False
def rngW (as : List A) (R : Gd → List A → Prop) : Prop := match as with
  | [.int j] => b62 j ∧ R [] (rngA 0 j.toNat)
  | [.int i, .int j] => b62 i ∧ b62 j ∧ R [] (rngA i (j - i).toNat)
  | [.int i, .int j, .int c] => ∃ n, RgC i j c n ∧ R [] (rngC i c n)
  | _ => False
def bxW (f : Bxf) (as : List A) (h : Hh) (Q : QV) : Prop := match f, as with
  | .listR, [.int j] => b62 j ∧ j.toNat ≤ 1000 ∧ new h (.lst (rngA 0 j.toNat)) Q
  | .listR, [.int i, .int j] => b62 i ∧ b62 j ∧ (j - i).toNat ≤ 1000 ∧ new h (.lst (rngA i (j - i).toNat)) Q
  | .listR, [.int i, .int j, .int c] => ∃ n, RgC i j c n ∧ n ≤ 1000 ∧ new h (.lst (rngC i c n)) Q
  | .listRev, [.ref n] => ∃ xs, h[n]? = some (.lst xs) ∧ new h (.lst xs.reverse) Q
  | .lenset, [x] => ∃ xs : List PySem.Str, sqW x h (xs.map A.str) ∧ xs.length ≤ 1000 ∧ Q (.int (dcnt xs.reverse)) h
  | _, _ => False
abbrev WE := SA → Hh → QV → XQ → Prop
/-- a part of a slice that may be left out -/
def wpO (t : WE) (e : E) (σ : SA) (h : Hh) (Q : Option Int → Hh → Prop) (X : XQ) : Prop := match e with
  | .no => Q none h
  | _ => t σ h (fun x h1 => ∃ i, x = .int i ∧ Q (some i) h1) X
/-- a comprehension's test; nothing that is raised leaves it -/
def wpC (t : WE) (e : E) (σ : SA) (h : Hh) (Q : Bool → Hh → Prop) : Prop := match e with
  | .no => Q true h
  | _ => t σ h (fun x h1 => ∃ k, x = .bl k ∧ Q k h1) (fun _ _ _ _ => False)
section
variable (pg : Pg) (g : Fid → GQ) (xx : Option (String × List (String × A)))
mutual
def wpE : E → SA → Hh → QV → XQ → Prop
  | .var i, σ, h, Q, _ => ∃ v, σ[i]? = some (some v) ∧ Q v h
  | .cst v, _, h, Q, _ => Q v h
  | .glob x, _, h, Q, _ => ∃ v, pg.c x = some v ∧ Q v h
  | .bin op a b, σ, h, Q, X => wpE a σ h (fun x h1 => wpE b σ h1 (fun y h2 => binW op x y h2 Q) X) X
  | .cmp op a b, σ, h, Q, X => wpE a σ h (fun x h1 => wpE b σ h1 (fun y h2 => cmpW op x y h2 fun c => Q (.bl c) h2) X) X
  | .ch2 o p a b c, σ, h, Q, X => wpE a σ h (fun x h1 => wpE b σ h1 (fun y h2 => cmpW o x y h2 fun k => if k = true then wpE c σ h2 (fun z h3 => cmpW p y z h3 fun c => Q (.bl c) h3) X else Q (.bl false) h2) X) X
  | .ch3 o p q a b c d, σ, h, Q, X => wpE a σ h (fun x h1 => wpE b σ h1 (fun y h2 => cmpW o x y h2 fun k => if k = true then wpE c σ h2 (fun z h3 => cmpW p y z h3 fun k2 => if k2 = true then wpE d σ h3 (fun u h4 => cmpW q z u h4 fun c => Q (.bl c) h4) X else Q (.bl false) h3) X else Q (.bl false) h2) X) X
  | .neg a, σ, h, Q, X => wpE a σ h (fun x h1 => ∃ i, x = .int i ∧ Q (.int (-i)) h1) X
  | .and as, σ, h, Q, X => wpAnd as σ h Q X
  | .or as, σ, h, Q, X => wpOr as σ h Q X
  | .not a, σ, h, Q, X => wpE a σ h (fun x h1 => ∃ k, x = .bl k ∧ Q (.bl (!k)) h1) X
  | .ite c a b, σ, h, Q, X => wpE c σ h (fun x h1 => ∃ k, x = .bl k ∧ if k = true then wpE a σ h1 Q X else wpE b σ h1 Q X) X
  | .idx a b, σ, h, Q, X => wpE a σ h (fun x h1 => wpE b σ h1 (fun y h2 => idxW x y h2 Q) X) X
  | .slc a lo hi, σ, h, Q, X => wpE a σ h (fun x h1 => wpO (wpE lo) lo σ h1 (fun l h2 => wpO (wpE hi) hi σ h2 (fun u h3 => slcW x l u h3 Q) X) X) X
  | .rev a, σ, h, Q, X => wpE a σ h (fun x h1 => ∃ n xs, x = .ref n ∧ h1[n]? = some (.lst xs) ∧ new h1 (.lst xs.reverse) Q) X
  | .no, _, _, _, _ => False
  | .tup as, σ, h, Q, X => wpEs as σ h (fun xs h1 => xs.length ≤ sizeLine ∧ Q (.tup xs) h1) X
  | .fnv x, _, h, Q, _ => ∃ fn, pg.d x = some fn ∧ Q (.fn x) h
  | .tix o a, σ, h, Q, X => wpE o σ h (fun x h1 => ∃ xs, x = .kt xs ∧ wpE a σ h1 (fun y h2 => bmW .indexT x [y] h2 Q) X) X
  | .lst as, σ, h, Q, X => wpEs as σ h (fun xs h1 => xs.length ≤ sizeLine ∧ new h1 (.lst xs) Q) X
  | .dnew t, _, h, Q, _ => new h (if t then .dT [] else .dK []) Q
  | .dsp ks as, σ, h, Q, X => wpEs as σ (h ++ [.dK []]) (fun xs h1 => h1[h.length]? = some (.dK []) ∧ xs.length = ks.length ∧ Q (.ref h.length) (h1.set h.length (.dK (dspK ks xs)))) X
  | .call f as, σ, h, Q, X => ∃ fn, pg.d f = some fn ∧ as.len ≤ fn.ps.length ∧ fn.ps.length ≤ as.len + fn.df ∧ wpEs as σ h (fun xs h1 => g (.d f) (xs ++ List.replicate (fn.ps.length - as.len) .non) h1 Q X) X
  | .callv i as, σ, h, Q, X => ∃ f fn, σ[i]? = some (some (.fn f)) ∧ pg.d f = some fn ∧ as.len = fn.ps.length ∧ wpEs as σ h (fun xs h1 => g (.d f) xs h1 Q X) X
  | .blt f as, σ, h, Q, X => wpEs as σ h (fun xs h1 => bltW f xs h1 Q) X
  | .bx f as, σ, h, Q, X => wpEs as σ h (fun xs h1 => bxW f xs h1 Q) X
  | .isi a cs, σ, h, Q, X => cs.all pg.cn = true ∧ wpE a σ h (fun x h1 => ∃ k, kindA h1 x = some k ∧ Q (.bl (cs.any (isB pg k))) h1) X
  | .meth o m as, σ, h, Q, X => wpE o σ h (fun x h1 => ∃ n C fs fn, x = .ref n ∧ h1[n]? = some (.ins C fs) ∧ fs.lookup m = none ∧ m ≠ "__init__" ∧ pg.m C m = some fn ∧ as.len + 1 ≤ fn.ps.length ∧ fn.ps.length ≤ as.len + 1 + fn.df ∧ wpEs as σ h1 (fun xs h2 => g (.m C m) (x :: (xs ++ List.replicate (fn.ps.length - 1 - as.len) .non)) h2 Q X) X) X
  | .bm m o as, σ, h, Q, X => wpE o σ h (fun x h1 => kindA h1 x = some m.T ∧ wpEs as σ h1 (fun xs h2 => bmW m x xs h2 Q) X) X
  | .mk C as, σ, h, Q, X => ∃ fn, pg.m C "__init__" = some fn ∧ as.len + 1 ≤ fn.ps.length ∧ fn.ps.length ≤ as.len + 1 + fn.df ∧ wpEs as σ h (fun xs h1 => g (.m C "__init__") (.ref h1.length :: (xs ++ List.replicate (fn.ps.length - 1 - as.len) .non)) (h1 ++ [.ins C []]) (fun v h2 => v = .non ∧ Q (.ref h1.length) h2) X) X
  | .fld o f, σ, h, Q, X => wpE o σ h (fun x h1 => ∃ n C fs v, x = .ref n ∧ h1[n]? = some (.ins C fs) ∧ (pg.fl C).contains f = true ∧ fs.lookup f = some v ∧ Q v h1) X
  | .lc vs tg it c elt, σ, h, Q, X => wpI it σ h (fun G xs h1 => lcA G h1.length (fun x h2 R => tgW tg x (wipeA σ vs) fun σ2 => wpC (wpE c) c σ2 h2 (fun k h3 => if k = true then wpE elt σ2 h3 (fun y h4 => R (some y) h4) (fun _ _ _ _ => False) else R none h3)) (Q (.ref h1.length)) xs (h1 ++ [.lst []])) X
  | .xfld f, _, h, Q, _ => ∃ c fs fl v, xx = some (c, fs) ∧ pg.er c = some fl ∧ fl.contains f = true ∧ fs.lookup f = some v ∧ Q v h
  | .xis ds, _, h, Q, _ => ds.all pg.cn = true ∧ ∃ c fs, xx = some (c, fs) ∧ Q (.bl (ds.any (isB pg c))) h
def wpAnd : Es → SA → Hh → QV → XQ → Prop
  | .nil, _, _, _, _ => False
  | .cons a r, σ, h, Q, X => wpE a σ h (fun x h1 => match r with
    | .nil => Q x h1
    | .cons _ _ => ∃ k, x = .bl k ∧ if k = true then wpAnd r σ h1 Q X else Q (.bl false) h1) X
def wpOr : Es → SA → Hh → QV → XQ → Prop
  | .nil, _, _, _, _ => False
  | .cons a r, σ, h, Q, X => wpE a σ h (fun x h1 => match r with
    | .nil => Q x h1
    | .cons _ _ => ∃ k, x = .bl k ∧ if k = true then Q (.bl true) h1 else wpOr r σ h1 Q X) X
def wpEs : Es → SA → Hh → QL → XQ → Prop
  | .nil, _, h, Q, _ => Q [] h
  | .cons a as, σ, h, Q, X => wpE a σ h (fun x h1 => wpEs as σ h1 (fun xs h2 => Q (x :: xs) h2) X) X
def wpI : I → SA → Hh → (Gd → List A → Hh → Prop) → XQ → Prop
  | .ex e, σ, h, R, X => wpE e σ h (fun x h1 => srcW x h1 fun G xs => R G xs h1) X
  | .rng as, σ, h, R, X => wpEs as σ h (fun xs h1 => rngW xs fun G ys => R G ys h1) X
  | .enm e, σ, h, R, X => wpE e σ h (fun x h1 => (∃ n xs, x = .ref n ∧ h1[n]? = some (.lst xs) ∧ R [(n, xs)] (enA xs) h1) ∨ ∃ xs, x = .tup xs ∧ R [] (enA xs) h1) X
  | .zip a b, σ, h, R, X => wpE a σ h (fun x h1 => wpE b σ h1 (fun y h2 => ∃ n m xs ys, x = .ref n ∧ y = .ref m ∧ h2[n]? = some (.lst xs) ∧ h2[m]? = some (.lst ys) ∧ R [(n, xs), (m, ys)] (zipA xs ys) h2) X) X
  | .rev e, σ, h, R, X => wpE e σ h (fun x h1 => (∃ n xs, x = .ref n ∧ h1[n]? = some (.lst xs) ∧ R [(n, xs)] xs.reverse h1) ∨ ∃ xs, x = .tup xs ∧ R [] xs.reverse h1) X
  | .revR as, σ, h, R, X => wpEs as σ h (fun xs h1 => rngW xs fun G ys => R G ys.reverse h1) X
  | .items _, _, _, _, _ => False
  | .keys _, _, _, _, _ => False
  | .values _, _, _, _, _ => False
end
def wpB (e : E) (σ : SA) (h : Hh) (Q : Bool → Hh → Prop) (X : XQ) : Prop := wpE pg g xx e σ h (fun x h1 => ∃ k, x = .bl k ∧ Q k h1) X
end
section
variable (pg : Pg) (g : Fid → GQ)
mutual
def wpS (xx : Option (String × List (String × A))) : S → En → XS → SA → Hh → Prop
  | .set i e, D, X, σ, h => wpE pg g xx e σ h (fun x h1 => D.nx (σ.set i (some x)) h1) (fun b c fs h1 => X b c fs σ h1)
  | .asg tg e, D, X, σ, h => wpE pg g xx e σ h (fun x h1 => asgT tg x h1 σ fun σ1 => D.nx σ1 h1) (fun b c fs h1 => X b c fs σ h1)
  | .par is as, D, X, σ, h => wpEs pg g xx as σ h (fun xs h1 => xs.length = is.length ∧ D.nx ((is.zip xs).foldl (fun τ p => τ.set p.1 (some p.2)) σ) h1) (fun b c fs h1 => X b c fs σ h1)
  | .sub o i e, D, X, σ, h => wpE pg g xx e σ h (fun v h1 => wpE pg g xx o σ h1 (fun x h2 => wpE pg g xx i σ h2 (fun y h3 => subW x y v h3 fun h4 => D.nx σ h4) (fun b c fs h1 => X b c fs σ h1)) (fun b c fs h1 => X b c fs σ h1)) (fun b c fs h1 => X b c fs σ h1)
  | .parS o i p j as, D, X, σ, h => wpEs pg g xx as σ h (fun t h1 => ∃ v u, t = [v, u] ∧ wpE pg g xx o σ h1 (fun x h2 => wpE pg g xx i σ h2 (fun y h3 => subW x y v h3 fun h4 => wpE pg g xx p σ h4 (fun x2 h5 => wpE pg g xx j σ h5 (fun y2 h6 => subW x2 y2 u h6 fun h7 => D.nx σ h7) (fun b c fs h1 => X b c fs σ h1)) (fun b c fs h1 => X b c fs σ h1)) (fun b c fs h1 => X b c fs σ h1)) (fun b c fs h1 => X b c fs σ h1)) (fun b c fs h1 => X b c fs σ h1)
  | .fld o f e, D, X, σ, h => wpE pg g xx e σ h (fun v h1 => wpE pg g xx o σ h1 (fun x h2 => ∃ n C fs, x = .ref n ∧ h2[n]? = some (.ins C fs) ∧ (pg.fl C).contains f = true ∧ fs.length < 1000 ∧ D.nx σ (h2.set n (.ins C (putA f v fs)))) (fun b c fs h1 => X b c fs σ h1)) (fun b c fs h1 => X b c fs σ h1)
  | .aug i op e, D, X, σ, h => ∃ x, σ[i]? = some (some x) ∧ wpE pg g xx e σ h (fun y h1 => ∃ a b, x = .int a ∧ y = .int b ∧ match op with
      | .Add => D.nx (σ.set i (some (.int (a + b)))) h1
      | .Sub => D.nx (σ.set i (some (.int (a - b)))) h1
      | _ => False) (fun b c fs h1 => X b c fs σ h1)
  | .augF o f op e, D, X, σ, h => wpE pg g xx o σ h (fun x h1 => ∃ n C fs a, x = .ref n ∧ h1[n]? = some (.ins C fs) ∧ (pg.fl C).contains f = true ∧ fs.lookup f = some (.int a) ∧ wpE pg g xx e σ h1 (fun y h2 => ∃ b fs2, y = .int b ∧ op = .Add ∧ h2[n]? = some (.ins C fs2) ∧ fs2.length < 1000 ∧ D.nx σ (h2.set n (.ins C (putA f (.int (a + b)) fs2)))) (fun b c fs h1 => X b c fs σ h1)) (fun b c fs h1 => X b c fs σ h1)
  | .ite c a b, D, X, σ, h => wpB pg g xx c σ h (fun k h1 => if k = true then wpSs xx a D X σ h1 else wpSs xx b D X σ h1) (fun b c fs h1 => X b c fs σ h1)
  | .for tg it b, D, X, σ, h => wpI pg g xx it σ h (fun G xs h1 => forA G (fun x D' σ' h' => tgW tg x σ' fun σ2 => wpSs xx b D' X σ2 h') xs D σ h1) (fun b c fs h1 => X b c fs σ h1)
  | .while c b, D, X, σ, h => ∃ n, whA (fun σ' h' Q => wpB pg g xx c σ' h' Q (fun b c fs h1 => X b c fs σ' h1)) (fun D' σ' h' => wpSs xx b D' X σ' h') n D σ h
  | .ret e, D, X, σ, h => wpE pg g xx e σ h D.rt (fun b c fs h1 => X b c fs σ h1)
  | .retN, D, _, _, h => D.rt .non h
  | .ex e, D, X, σ, h => wpE pg g xx e σ h (fun _ h1 => D.nx σ h1) (fun b c fs h1 => X b c fs σ h1)
  | .raise x as, _, X, σ, h => ∃ fl, pg.er x = some fl ∧ wpEs pg g xx as σ h (fun xs h1 => xs.length = fl.length ∧ X true x (fl.zip xs).reverse σ h1) (fun b c fs h1 => X b c fs σ h1)
  | .pass, D, _, σ, h => D.nx σ h
  | .brk, D, _, σ, h => D.bk σ h
  | .cont, D, _, σ, h => D.ct σ h
  | .bad, _, _, _, _ => False
  | .try b hs el, D, X, σ, h => hsOk pg hs = true ∧ wpSs xx b { D with nx := fun σ1 h1 => wpSs xx el D X σ1 h1 } (fun k c fs σ1 h1 => wpH xx hs k c fs D X σ1 h1) σ h
def wpSs (xx : Option (String × List (String × A))) : Ss → En → XS → SA → Hh → Prop
  | .nil, D, _, σ, h => D.nx σ h
  | .cons s r, D, X, σ, h => wpS xx s { D with nx := fun σ1 h1 => wpSs xx r D X σ1 h1 } X σ h
def wpH (xx : Option (String × List (String × A))) : Hs → Bool → String → List (String × A) → En → XS → SA → Hh → Prop
  | .nil, k, c, fs, _, X, σ, h => X k c fs σ h
  | .cons cs sl b r, k, c, fs, D, X, σ, h => (pg.er c).isSome = true ∧ if (cs.any fun d => (pg.up c).contains d) = true then slOk sl σ ∧ wpSs (some (c, fs)) b ⟨fun τ h1 => D.nx (unsl sl τ) h1, D.rt, fun τ h1 => D.bk (unsl sl τ) h1, fun τ h1 => D.ct (unsl sl τ) h1⟩ (fun _ _ _ _ _ => False) (unsl sl σ) h else wpH xx r k c fs D X σ h
  | .thrw cs x as r, k, c, fs, D, X, σ, h => (pg.er c).isSome = true ∧ if (cs.any fun d => (pg.up c).contains d) = true then k = true ∧ ∃ fl, pg.er x = some fl ∧ wpEs pg g (some (c, fs)) as σ h (fun xs h1 => xs.length = fl.length ∧ X false x (fl.zip xs).reverse σ h1) (fun _ _ _ _ => False) else wpH xx r k c fs D X σ h
  | .again _ _ _, _, _, _, _, _, _, _ => False
end
end
def startA (n : Nat) (as : List A) : SA := as.map some ++ List.replicate (n - as.length) none
def Pg.at (pg : Pg) : Fid → Option Fn
  | .d x => pg.d x
  | .m C m => pg.m C m
/-- the calls, by how deep they may go -/
def Γ (pg : Pg) : Nat → Fid → GQ
  | 0, _, _, _, _, _ => False
  | k + 1, f, as, h, Q, X => ∃ fn, pg.at f = some fn ∧ as.length = fn.ps.length ∧
      wpSs pg (Γ pg k) none fn.body ⟨fun _ h1 => Q .non h1, Q, fun _ _ => False, fun _ _ => False⟩ (fun b c fs _ h1 => X b c fs h1) (startA fn.n as) h
end Z

/-! ### a weaker wish -/
namespace Z
open PySem L2
abbrev QLe (Q Q' : QV) : Prop := ∀ a h, Q a h → Q' a h
abbrev XLe (X X' : XQ) : Prop := ∀ b c fs h, X b c fs h → X' b c fs h
theorem eqW_mono {x y : A} {h : Hh} {Q Q' : Bool → Prop} (q : ∀ b, Q b → Q' b) : eqW x y h Q → eqW x y h Q' := by
  unfold eqW
  cases sc x y with
  | some b => exact q b
  | none =>
    rintro (⟨h1, h2⟩ | ⟨d, e, h1, h2, h3, h4, h5⟩)
    · exact .inl ⟨h1, q _ h2⟩
    · exact .inr ⟨d, e, h1, h2, h3, h4, q _ h5⟩
theorem inSq_mono {x : A} {ys : List A} {h : Hh} {Q Q' : Bool → Prop} (q : ∀ b, Q b → Q' b) : inSq x ys h Q → inSq x ys h Q' := by
  rintro ⟨d, ds, h1, h2, h3, h4, h5⟩
  exact ⟨d, ds, h1, h2, h3, h4, q _ h5⟩
theorem inW_mono {x y : A} {h : Hh} {Q Q' : Bool → Prop} (q : ∀ b, Q b → Q' b) : inW x y h Q → inW x y h Q' := by
  unfold inW
  cases y with
  | str z =>
    rintro ⟨c, e, h1⟩
    exact ⟨c, e, q _ h1⟩
  | tup ys => exact inSq_mono q
  | fro ys => exact inSq_mono q
  | kt ys => exact inSq_mono q
  | ref n =>
    simp only
    cases h[n]? with
    | none => exact id
    | some o =>
      cases o with
      | lst ys => exact inSq_mono q
      | dK kvs => exact Exists.imp fun k w => ⟨w.1, q _ w.2⟩
      | dT kvs => exact Exists.imp fun k w => ⟨w.1, q _ w.2⟩
      | ins C fs => exact id
  | _ => exact id
theorem isW_mono {x y : A} {Q Q' : Bool → Prop} (q : ∀ b, Q b → Q' b) : isW x y Q → isW x y Q' := by
  unfold isW
  cases y <;> first | exact q _ | exact id | (cases x <;> first | exact q _ | exact id)
theorem cmpW_mono {op : CmpOp} {x y : A} {h : Hh} {Q Q' : Bool → Prop} (q : ∀ b, Q b → Q' b) : cmpW op x y h Q → cmpW op x y h Q' := by
  cases op with
  | Eq => exact eqW_mono q
  | NotEq => exact eqW_mono fun b => q _
  | In => exact inW_mono q
  | NotIn => exact inW_mono fun b => q _
  | Is => exact isW_mono q
  | IsNot => exact isW_mono fun b => q _
  | Lt => cases x <;> cases y <;> first | exact q _ | exact id
  | LtE => cases x <;> cases y <;> first | exact q _ | exact id
  | Gt => cases x <;> cases y <;> first | exact q _ | exact id
  | GtE => cases x <;> cases y <;> first | exact q _ | exact id
theorem binW_mono {op : Operator} {x y : A} {h : Hh} {Q Q' : QV} (q : QLe Q Q') : binW op x y h Q → binW op x y h Q' := by
  unfold binW new
  intro z
  split at z
  · exact q _ _ z
  · exact ⟨z.1, q _ _ z.2⟩
  · obtain ⟨xs, ys, h1, h2, h3, h4⟩ := z
    exact ⟨xs, ys, h1, h2, h3, q _ _ h4⟩
  · exact ⟨z.1, q _ _ z.2⟩
  · exact ⟨z.1, z.2.1, z.2.2.1, q _ _ z.2.2.2⟩
  · exact ⟨z.1, z.2.1, z.2.2.1, q _ _ z.2.2.2⟩
  · exact q _ _ z
  · exact ⟨z.1, q _ _ z.2⟩
  · obtain ⟨xs, h1, h2, h3, h4, h5⟩ := z
    exact ⟨xs, h1, h2, h3, h4, q _ _ h5⟩
  · exact ⟨z.1, z.2.1, z.2.2.1, z.2.2.2.1, q _ _ z.2.2.2.2⟩
  · exact ⟨z.1, q _ _ z.2⟩
  · exact ⟨z.1, q _ _ z.2⟩
  · exact ⟨z.1, q _ _ z.2⟩
  · exact ⟨z.1, q _ _ z.2⟩
  · exact ⟨z.1, q _ _ z.2⟩
  · exact ⟨z.1, q _ _ z.2⟩
  · exact q _ _ z
  · exact q _ _ z
  · exact q _ _ z
  · exact z.elim
theorem idxW_mono {x y : A} {h : Hh} {Q Q' : QV} (q : QLe Q Q') : idxW x y h Q → idxW x y h Q' := by
  unfold idxW
  intro z
  split at z
  · exact z.imp fun v w => ⟨w.1, q _ _ w.2⟩
  · exact z.imp fun v w => ⟨w.1, q _ _ w.2⟩
  · exact z.imp fun v w => ⟨w.1, q _ _ w.2⟩
  · exact ⟨z.1, z.2.imp fun v w => ⟨w.1, q _ _ w.2⟩⟩
  · rename_i n
    revert z
    cases h[n]? with
    | none => exact id
    | some o =>
      cases o <;> first
        | exact id
        | (rintro ⟨i, v, h1, h2, h3⟩
           exact ⟨i, v, h1, h2, q _ _ h3⟩)
  · exact z.elim
theorem slcW_mono {x : A} {lo hi : Option Int} {h : Hh} {Q Q' : QV} (q : QLe Q Q') : slcW x lo hi h Q → slcW x lo hi h Q' := by
  unfold slcW new
  intro z
  split at z
  · exact q _ _ z
  · exact ⟨z.1, q _ _ z.2⟩
  · exact z.imp fun v w => ⟨w.1, q _ _ w.2⟩
  · exact q _ _ z
  · exact ⟨z.1, q _ _ z.2⟩
  · exact z.elim
theorem subW_mono {x y v : A} {h : Hh} {Q Q' : Hh → Prop} (q : ∀ h', Q h' → Q' h') : subW x y v h Q → subW x y v h Q' := by
  unfold subW
  cases x with
  | ref n =>
    simp only
    cases h[n]? with
    | none => exact id
    | some o =>
      cases o with
      | lst xs => exact fun ⟨k, j, a, b, c⟩ => ⟨k, j, a, b, q _ c⟩
      | dK kvs => exact fun ⟨k, a, b, c⟩ => ⟨k, a, b, q _ c⟩
      | dT kvs => exact fun ⟨k, a, b, c⟩ => ⟨k, a, b, q _ c⟩
      | ins C fs => exact id
  | _ => exact id
theorem sortW_mono {xs : List A} {h : Hh} {Q Q' : QV} (q : QLe Q Q') : sortW xs h Q → sortW xs h Q' := by
  rintro (⟨ns, e, z⟩ | ⟨ns, e, z⟩)
  · exact .inl ⟨ns, e, fun ms h1 h2 => q _ _ (z ms h1 h2)⟩
  · exact .inr ⟨ns, e, fun ms h1 h2 => q _ _ (z ms h1 h2)⟩
theorem bltW_mono {f : Bf} {as : List A} {h : Hh} {Q Q' : QV} (q : QLe Q Q') : bltW f as h Q → bltW f as h Q' := by
  unfold bltW new
  intro z
  split at z <;> first
    | exact q _ _ z
    | exact ⟨z.1, q _ _ z.2⟩
    | exact z.elim
    | exact z.imp fun v w => ⟨w.1, q _ _ w.2⟩
    | exact z.imp fun v w => ⟨w.1, w.2.imp (q _ _) (q _ _)⟩
    | exact sortW_mono q z
    | exact z.imp (fun z => z.imp fun v w => ⟨w.1, sortW_mono q w.2⟩) (fun z => z.imp fun kvs z => z.imp fun ns w => ⟨w.1, w.2.1, w.2.2.1, fun ms h1 h2 => q _ _ (w.2.2.2 ms h1 h2)⟩)
    | (split at z <;> first | exact q _ _ z | exact z.elim)
    | (obtain ⟨n, h1, h2, h3⟩ := z; exact ⟨n, h1, h2, q _ _ h3⟩)
    | (obtain ⟨d, h1, h2, h3, h4, h5⟩ := z; exact ⟨d, h1, h2, h3, h4, q _ _ h5⟩)
theorem bxW_mono {f : Bxf} {as : List A} {h : Hh} {Q Q' : QV} (q : QLe Q Q') : bxW f as h Q → bxW f as h Q' := by
  unfold bxW new
  intro z
  split at z <;> first
    | exact z.elim
    | exact ⟨z.1, z.2.1, q _ _ z.2.2⟩
    | exact ⟨z.1, z.2.1, z.2.2.1, q _ _ z.2.2.2⟩
    | exact z.imp fun v w => ⟨w.1, w.2.1, q _ _ w.2.2⟩
    | exact z.imp fun v w => ⟨w.1, q _ _ w.2⟩
theorem bmW_mono {m : Bm} {o : A} {as : List A} {h : Hh} {Q Q' : QV} (q : QLe Q Q') : bmW m o as h Q → bmW m o as h Q' := by
  unfold bmW new
  intro z
  split at z <;> first
    | exact q _ _ z
    | exact ⟨z.1, q _ _ z.2⟩
    | exact ⟨z.1, z.2.1, q _ _ z.2.2⟩
    | (obtain ⟨xs, h1, h2, h3, h4, h5⟩ := z; exact ⟨xs, h1, h2, h3, h4, q _ _ h5⟩)
    | (obtain ⟨ys, j, h1, h2, h3, h4⟩ := z; exact ⟨ys, j, h1, h2, h3, q _ _ h4⟩)
    | (obtain ⟨i, r, h1, h2⟩ := z; exact ⟨i, r, h1, q _ _ h2⟩)
    | (obtain ⟨xs, h1, h2, h3⟩ := z; exact ⟨xs, h1, h2, q _ _ h3⟩)
    | (obtain ⟨xs, ys, h1, h2, h3, h4⟩ := z; exact ⟨xs, ys, h1, h2, h3, q _ _ h4⟩)
    | (obtain ⟨xs, x, h1, h2, h3⟩ := z; exact ⟨xs, x, h1, h2, q _ _ h3⟩)
    | (obtain ⟨xs, k, x, h1, h2, h3, h4, h5, h6⟩ := z; exact ⟨xs, k, x, h1, h2, h3, h4, h5, q _ _ h6⟩)
    | exact z.imp fun v w => ⟨w.1, q _ _ w.2⟩
    | exact z.elim
mutual
theorem tgW_mono : ∀ (t : Tg) {v : A} {σ : SA} {Q Q' : SA → Prop}, (∀ τ, Q τ → Q' τ) → tgW t v σ Q → tgW t v σ Q'
  | .nm i, v, σ, Q, Q', q, z => q _ z
  | .tp ts, v, σ, Q, Q', q, z => by
    obtain ⟨xs, e, w⟩ := z
    exact ⟨xs, e, tgsW_mono ts q w⟩
theorem tgsW_mono : ∀ (ts : List Tg) {xs : List A} {σ : SA} {Q Q' : SA → Prop}, (∀ τ, Q τ → Q' τ) → tgsW ts xs σ Q → tgsW ts xs σ Q'
  | [], xs, σ, Q, Q', q, z => ⟨z.1, q _ z.2⟩
  | t :: ts, xs, σ, Q, Q', q, z => by
    obtain ⟨x, r, e, w⟩ := z
    exact ⟨x, r, e, tgW_mono t (fun τ w2 => tgsW_mono ts q w2) w⟩
end
theorem asgT_mono {tg : Tg} {x : A} {h : Hh} {σ : SA} {Q Q' : SA → Prop} (q : ∀ τ, Q τ → Q' τ) (z : asgT tg x h σ Q) : asgT tg x h σ Q' :=
  z.elim (fun z => .inl (tgW_mono tg q z)) fun ⟨ts, n, xs, a, b, c, d⟩ => .inr ⟨ts, n, xs, a, b, c, tgsW_mono ts q d⟩
theorem srcW_mono {x : A} {h : Hh} {R R' : Gd → List A → Prop} (q : ∀ G xs, R G xs → R' G xs) : srcW x h R → srcW x h R' := by
  unfold srcW
  intro z
  split at z <;> first
    | exact q _ _ z
    | exact z.imp fun v w => ⟨w.1, q _ _ w.2⟩
    | exact z.elim
theorem rngW_mono {as : List A} {R R' : Gd → List A → Prop} (q : ∀ G xs, R G xs → R' G xs) : rngW as R → rngW as R' := by
  unfold rngW
  intro z
  split at z <;> first
    | exact ⟨z.1, q _ _ z.2⟩
    | exact ⟨z.1, z.2.1, q _ _ z.2.2⟩
    | exact z.imp fun n w => ⟨w.1, q _ _ w.2⟩
    | exact z.elim
structure EnLe (D D' : En) : Prop where
  nx : ∀ σ h, D.nx σ h → D'.nx σ h
  rt : ∀ v h, D.rt v h → D'.rt v h
  bk : ∀ σ h, D.bk σ h → D'.bk σ h
  ct : ∀ σ h, D.ct σ h → D'.ct σ h
theorem forA_mono {G : Gd} {st st' : A → En → SA → Hh → Prop} (hs : ∀ x D D' σ h, EnLe D D' → st x D σ h → st' x D' σ h) : ∀ (xs : List A) {D D' : En} {σ : SA} {h : Hh}, EnLe D D' → forA G st xs D σ h → forA G st' xs D' σ h
  | [], _, _, _, _, le, z => ⟨z.1, le.nx _ _ z.2⟩
  | _ :: xs, _, _, _, _, le, z => by
    refine ⟨z.1, hs _ _ _ _ _ ?_ z.2⟩
    exact ⟨fun _ _ w => forA_mono hs xs le w, le.rt, le.nx, fun _ _ w => forA_mono hs xs le w⟩
theorem lcA_mono {G : Gd} {D : Nat} {st : A → Hh → (Option A → Hh → Prop) → Prop} (hs : ∀ x h R R', (∀ o h, R o h → R' o h) → st x h R → st x h R') {Q Q' : Hh → Prop} (q : ∀ h, Q h → Q' h) : ∀ (xs : List A) {h : Hh}, lcA G D st Q xs h → lcA G D st Q' xs h
  | [], _, z => ⟨z.1, q _ z.2⟩
  | _ :: xs, _, z => ⟨z.1, hs _ _ _ _ (fun o h w => by
      cases o with
      | none => exact lcA_mono hs q xs w
      | some y => exact w.imp fun acc w => ⟨w.1, w.2.1, lcA_mono hs q xs w.2.2⟩) z.2⟩
theorem whA_mono {c : SA → Hh → (Bool → Hh → Prop) → Prop} {b : En → SA → Hh → Prop} {c' : SA → Hh → (Bool → Hh → Prop) → Prop} {b' : En → SA → Hh → Prop} (hc : ∀ σ h Q Q', (∀ k h, Q k h → Q' k h) → c σ h Q → c' σ h Q') (hb : ∀ D D' σ h, EnLe D D' → b D σ h → b' D' σ h) :
    ∀ (n : Nat) {D D' : En} {σ : SA} {h : Hh}, EnLe D D' → whA c b n D σ h → whA c' b' n D' σ h
  | 0, _, _, _, _, _, z => z
  | n + 1, _, _, _, _, le, z => hc _ _ _ _ (fun k h w => by
      cases k with
      | true =>
        refine hb _ _ _ _ ?_ w
        exact ⟨fun _ _ w => whA_mono hc hb n le w, le.rt, le.nx, fun _ _ w => whA_mono hc hb n le w⟩
      | false => exact le.nx _ _ w) z
def WMono (t : WE) : Prop := ∀ (σ : SA) (h : Hh) (Q Q' : QV) (X X' : XQ), QLe Q Q' → XLe X X' → t σ h Q X → t σ h Q' X'
theorem wpO_mono {t : WE} (m : WMono t) (e : E) {σ : SA} {h : Hh} {Q Q' : Option Int → Hh → Prop} {X X' : XQ} (q : ∀ o h, Q o h → Q' o h) (x : XLe X X') (z : wpO t e σ h Q X) : wpO t e σ h Q' X' := by
  unfold wpO at z ⊢
  split at z
  · exact q _ _ z
  · exact m _ _ _ _ _ _ (fun _ _ w => w.imp fun i w => ⟨w.1, q _ _ w.2⟩) x z
theorem wpC_mono {t : WE} (m : WMono t) (e : E) {σ : SA} {h : Hh} {Q Q' : Bool → Hh → Prop} (q : ∀ o h, Q o h → Q' o h) (z : wpC t e σ h Q) : wpC t e σ h Q' := by
  unfold wpC at z ⊢
  split at z
  · exact q _ _ z
  · exact m _ _ _ _ _ _ (fun _ _ w => w.imp fun i w => ⟨w.1, q _ _ w.2⟩) (fun _ _ _ _ f => f) z
def GMono (g : Fid → GQ) : Prop := ∀ f as h Q Q' X X', QLe Q Q' → XLe X X' → g f as h Q X → g f as h Q' X'
section
variable {pg : Pg} {g : Fid → GQ} (hg : GMono g)
include hg
mutual
theorem wpE_mono : ∀ (e : E) {xx : Option (String × List (String × A))} {σ : SA} {h : Hh} {Q Q' : QV} {X X' : XQ}, QLe Q Q' → XLe X X' → wpE pg g xx e σ h Q X → wpE pg g xx e σ h Q' X'
  | .var i, _, _, _, _, _, _, _, q, _, z => by
    obtain ⟨v, e, w⟩ := z
    exact ⟨v, e, q _ _ w⟩
  | .cst v, _, _, _, _, _, _, _, q, _, z => q _ _ z
  | .glob _, _, _, _, _, _, _, _, q, _, z => z.imp fun _ w => ⟨w.1, q _ _ w.2⟩
  | .bin op a b, _, _, _, _, _, _, _, q, x, z => wpE_mono a (fun _ _ w => wpE_mono b (fun _ _ w => binW_mono q w) x w) x z
  | .cmp op a b, _, _, _, _, _, _, _, q, x, z => wpE_mono a (fun _ _ w => wpE_mono b (fun _ _ w => cmpW_mono (fun _ => q _ _) w) x w) x z
  | .ch2 o p a b c, _, _, _, _, _, _, _, q, x, z => wpE_mono a (fun _ _ w => wpE_mono b (fun _ _ w => cmpW_mono (fun k w => by
      cases k with
      | true => exact wpE_mono c (fun _ _ w => cmpW_mono (fun _ => q _ _) w) x w
      | false => exact q _ _ w) w) x w) x z
  | .ch3 o p r a b c d, _, _, _, _, _, _, _, q, x, z => wpE_mono a (fun _ _ w => wpE_mono b (fun _ _ w => cmpW_mono (fun k w => by
      cases k with
      | true =>
        refine wpE_mono c (fun _ _ w => cmpW_mono (fun k2 w => ?_) w) x w
        cases k2 with
        | true => exact wpE_mono d (fun _ _ w => cmpW_mono (fun _ => q _ _) w) x w
        | false => exact q _ _ w
      | false => exact q _ _ w) w) x w) x z
  | .neg a, _, _, _, _, _, _, _, q, x, z => wpE_mono a (fun _ _ w => w.imp fun i w => ⟨w.1, q _ _ w.2⟩) x z
  | .and as, _, _, _, _, _, _, _, q, x, z => wpAnd_mono as q x z
  | .or as, _, _, _, _, _, _, _, q, x, z => wpOr_mono as q x z
  | .not a, _, _, _, _, _, _, _, q, x, z => wpE_mono a (fun _ _ w => w.imp fun k w => ⟨w.1, q _ _ w.2⟩) x z
  | .ite c a b, _, _, _, _, _, _, _, q, x, z => wpE_mono c (fun _ _ w => w.imp fun k w => ⟨w.1, by
      cases k with
      | true => exact wpE_mono a q x w.2
      | false => exact wpE_mono b q x w.2⟩) x z
  | .idx a b, _, _, _, _, _, _, _, q, x, z => wpE_mono a (fun _ _ w => wpE_mono b (fun _ _ w => idxW_mono q w) x w) x z
  | .slc a lo hi, xx, _, _, _, _, _, _, q, x, z => by
    refine wpE_mono a (fun _ _ w => ?_) x z
    refine wpO_mono (t := wpE pg g xx lo) (fun _ _ _ _ _ _ q x z => wpE_mono lo q x z) lo (fun _ _ w => ?_) x w
    exact wpO_mono (t := wpE pg g xx hi) (fun _ _ _ _ _ _ q x z => wpE_mono hi q x z) hi (fun _ _ w => slcW_mono q w) x w
  | .rev a, _, _, _, _, _, _, _, q, x, z => wpE_mono a (fun _ _ w => by
      obtain ⟨n, xs, h1, h2, h3⟩ := w
      exact ⟨n, xs, h1, h2, q _ _ h3⟩) x z
  | .no, _, _, _, _, _, _, _, _, _, z => z
  | .tup as, _, _, _, _, _, _, _, q, x, z => wpEs_mono as (fun _ _ w => ⟨w.1, q _ _ w.2⟩) x z
  | .lst as, _, _, _, _, _, _, _, q, x, z => wpEs_mono as (fun _ _ w => ⟨w.1, q _ _ w.2⟩) x z
  | .dnew t, _, _, _, _, _, _, _, q, _, z => q _ _ z
  | .dsp ks as, _, _, _, _, _, _, _, q, x, z => wpEs_mono as (fun _ _ w => ⟨w.1, w.2.1, q _ _ w.2.2⟩) x z
  | .call f as, _, _, _, _, _, _, _, q, x, z => z.imp fun fn w => ⟨w.1, w.2.1, w.2.2.1, wpEs_mono as (fun _ _ w => hg _ _ _ _ _ _ _ q x w) x w.2.2.2⟩
  | .callv i as, _, _, _, _, _, _, _, q, x, z => z.imp fun f w => w.imp fun fn w => ⟨w.1, w.2.1, w.2.2.1, wpEs_mono as (fun _ _ w => hg _ _ _ _ _ _ _ q x w) x w.2.2.2⟩
  | .fnv _, _, _, _, _, _, _, _, q, _, z => z.imp fun fn w => ⟨w.1, q _ _ w.2⟩
  | .tix o a, _, _, _, _, _, _, _, q, x, z => wpE_mono o (fun _ _ w => w.imp fun xs w => ⟨w.1, wpE_mono a (fun _ _ w => bmW_mono q w) x w.2⟩) x z
  | .blt f as, _, _, _, _, _, _, _, q, x, z => wpEs_mono as (fun _ _ w => bltW_mono q w) x z
  | .bx f as, _, _, _, _, _, _, _, q, x, z => wpEs_mono as (fun _ _ w => bxW_mono q w) x z
  | .isi a cs, _, _, _, _, _, _, _, q, x, z => ⟨z.1, wpE_mono a (fun _ _ w => w.imp fun k w => ⟨w.1, q _ _ w.2⟩) x z.2⟩
  | .meth o m as, _, _, _, _, _, _, _, q, x, z => wpE_mono o (fun _ _ w => by
      obtain ⟨n, C, fs, fn, h1, h2, h3, h4, h5, h6, h7, h8⟩ := w
      exact ⟨n, C, fs, fn, h1, h2, h3, h4, h5, h6, h7, wpEs_mono as (fun _ _ w => hg _ _ _ _ _ _ _ q x w) x h8⟩) x z
  | .bm m o as, _, _, _, _, _, _, _, q, x, z => wpE_mono o (fun _ _ w => ⟨w.1, wpEs_mono as (fun _ _ w => bmW_mono q w) x w.2⟩) x z
  | .mk C as, _, _, _, _, _, _, _, q, x, z => z.imp fun fn w => ⟨w.1, w.2.1, w.2.2.1, wpEs_mono as (fun _ _ w => hg _ _ _ _ _ _ _ (fun _ _ w => ⟨w.1, q _ _ w.2⟩) x w) x w.2.2.2⟩
  | .fld o f, _, _, _, _, _, _, _, q, x, z => wpE_mono o (fun _ _ w => by
      obtain ⟨n, C, fs, v, h1, h2, h3, h4, h5⟩ := w
      exact ⟨n, C, fs, v, h1, h2, h3, h4, q _ _ h5⟩) x z
  | .lc vs tg it c elt, xx, _, _, _, _, _, _, q, x, z => by
    refine wpI_mono it (fun _ _ _ w => ?_) x z
    refine lcA_mono (fun _ _ _ _ r w => ?_) (fun _ w => q _ _ w) _ w
    refine tgW_mono tg (fun _ w => ?_) w
    refine wpC_mono (t := wpE pg g xx c) (fun _ _ _ _ _ _ q x z => wpE_mono c q x z) c (fun k _ w => ?_) w
    cases k with
    | true => exact wpE_mono elt (fun _ _ w => r _ _ w) (fun _ _ _ _ f => f) w
    | false => exact r _ _ w
  | .xfld f, _, _, _, _, _, _, _, q, _, z => by
    obtain ⟨c, fs, fl, v, h1, h2, h3, h4, h5⟩ := z
    exact ⟨c, fs, fl, v, h1, h2, h3, h4, q _ _ h5⟩
  | .xis cs, _, _, _, _, _, _, _, q, _, z => by
    obtain ⟨h0, c, fs, h1, h2⟩ := z
    exact ⟨h0, c, fs, h1, q _ _ h2⟩
theorem wpAnd_mono : ∀ (es : Es) {xx : Option (String × List (String × A))} {σ : SA} {h : Hh} {Q Q' : QV} {X X' : XQ}, QLe Q Q' → XLe X X' → wpAnd pg g xx es σ h Q X → wpAnd pg g xx es σ h Q' X'
  | .nil, _, _, _, _, _, _, _, _, _, z => z
  | .cons a .nil, _, _, _, _, _, _, _, q, x, z => wpE_mono a q x z
  | .cons a (.cons b r), _, _, _, _, _, _, _, q, x, z => by
    refine wpE_mono a (fun _ _ w => w.imp fun k w => ⟨w.1, ?_⟩) x z
    cases k with
    | true => exact wpAnd_mono (.cons b r) q x w.2
    | false => exact q _ _ w.2
theorem wpOr_mono : ∀ (es : Es) {xx : Option (String × List (String × A))} {σ : SA} {h : Hh} {Q Q' : QV} {X X' : XQ}, QLe Q Q' → XLe X X' → wpOr pg g xx es σ h Q X → wpOr pg g xx es σ h Q' X'
  | .nil, _, _, _, _, _, _, _, _, _, z => z
  | .cons a .nil, _, _, _, _, _, _, _, q, x, z => wpE_mono a q x z
  | .cons a (.cons b r), _, _, _, _, _, _, _, q, x, z => by
    refine wpE_mono a (fun _ _ w => w.imp fun k w => ⟨w.1, ?_⟩) x z
    cases k with
    | true => exact q _ _ w.2
    | false => exact wpOr_mono (.cons b r) q x w.2
theorem wpEs_mono : ∀ (es : Es) {xx : Option (String × List (String × A))} {σ : SA} {h : Hh} {Q Q' : QL} {X X' : XQ}, (∀ a h, Q a h → Q' a h) → XLe X X' → wpEs pg g xx es σ h Q X → wpEs pg g xx es σ h Q' X'
  | .nil, _, _, _, _, _, _, _, q, _, z => q _ _ z
  | .cons a as, _, _, _, _, _, _, _, q, x, z => wpE_mono a (fun _ _ w => wpEs_mono as (fun _ _ w => q _ _ w) x w) x z
theorem wpI_mono : ∀ (it : I) {xx : Option (String × List (String × A))} {σ : SA} {h : Hh} {R R' : Gd → List A → Hh → Prop} {X X' : XQ}, (∀ G xs h, R G xs h → R' G xs h) → XLe X X' → wpI pg g xx it σ h R X → wpI pg g xx it σ h R' X'
  | .ex e, _, _, _, _, _, _, _, q, x, z => wpE_mono e (fun _ _ w => srcW_mono (fun _ _ w => q _ _ _ w) w) x z
  | .rng as, _, _, _, _, _, _, _, q, x, z => wpEs_mono as (fun _ _ w => rngW_mono (fun _ _ w => q _ _ _ w) w) x z
  | .enm e, _, _, _, _, _, _, _, q, x, z => wpE_mono e (fun _ _ w => by
      rcases w with ⟨n, xs, h1, h2, h3⟩ | ⟨xs, h1, h2⟩
      · exact .inl ⟨n, xs, h1, h2, q _ _ _ h3⟩
      · exact .inr ⟨xs, h1, q _ _ _ h2⟩) x z
  | .zip a b, _, _, _, _, _, _, _, q, x, z => wpE_mono a (fun _ _ w => wpE_mono b (fun _ _ w => by
      obtain ⟨n, m, xs, ys, h1, h2, h3, h4, h5⟩ := w
      exact ⟨n, m, xs, ys, h1, h2, h3, h4, q _ _ _ h5⟩) x w) x z
  | .rev e, _, _, _, _, _, _, _, q, x, z => wpE_mono e (fun _ _ w => by
      rcases w with ⟨n, xs, h1, h2, h3⟩ | ⟨xs, h1, h2⟩
      · exact .inl ⟨n, xs, h1, h2, q _ _ _ h3⟩
      · exact .inr ⟨xs, h1, q _ _ _ h2⟩) x z
  | .revR as, _, _, _, _, _, _, _, q, x, z => wpEs_mono as (fun _ _ w => rngW_mono (fun _ _ w => q _ _ _ w) w) x z
  | .items _, _, _, _, _, _, _, _, _, _, z => z
  | .keys _, _, _, _, _, _, _, _, _, _, z => z
  | .values _, _, _, _, _, _, _, _, _, _, z => z
end
theorem wpB_mono (e : E) {xx : Option (String × List (String × A))} {σ : SA} {h : Hh} {Q Q' : Bool → Hh → Prop} {X X' : XQ} (q : ∀ k h, Q k h → Q' k h) (x : XLe X X') (z : wpB pg g xx e σ h Q X) : wpB pg g xx e σ h Q' X' :=
  wpE_mono hg e (fun _ _ w => w.imp fun _ w => ⟨w.1, q _ _ w.2⟩) x z
abbrev XSLe (X X' : XS) : Prop := ∀ b c fs σ h, X b c fs σ h → X' b c fs σ h
mutual
theorem wpS_mono : ∀ (s : S) {xx : Option (String × List (String × A))} {D D' : En} {X X' : XS} {σ : SA} {h : Hh}, EnLe D D' → XSLe X X' → wpS pg g xx s D X σ h → wpS pg g xx s D' X' σ h
  | .set i e, _, _, _, _, _, _, _, d, x, z => wpE_mono hg e (fun _ _ w => d.nx _ _ w) (fun _ _ _ _ w => x _ _ _ _ _ w) z
  | .asg tg e, _, _, _, _, _, _, _, d, x, z => wpE_mono hg e (fun _ _ w => asgT_mono (fun _ w => d.nx _ _ w) w) (fun _ _ _ _ w => x _ _ _ _ _ w) z
  | .par is as, _, _, _, _, _, _, _, d, x, z => wpEs_mono hg as (fun _ _ w => ⟨w.1, d.nx _ _ w.2⟩) (fun _ _ _ _ w => x _ _ _ _ _ w) z
  | .parS o i p j as, _, _, _, _, _, _, _, d, x, z => wpEs_mono hg as (fun _ _ ⟨v, u, e, w⟩ => ⟨v, u, e, wpE_mono hg o (fun _ _ w => wpE_mono hg i (fun _ _ w => subW_mono (fun _ w => wpE_mono hg p (fun _ _ w => wpE_mono hg j (fun _ _ w => subW_mono (fun _ z => d.nx _ _ z) w) (fun _ _ _ _ w => x _ _ _ _ _ w) w) (fun _ _ _ _ w => x _ _ _ _ _ w) w) w) (fun _ _ _ _ w => x _ _ _ _ _ w) w) (fun _ _ _ _ w => x _ _ _ _ _ w) w⟩) (fun _ _ _ _ w => x _ _ _ _ _ w) z
  | .sub o i e, _, _, _, _, _, _, _, d, x, z => wpE_mono hg e (fun _ _ w => wpE_mono hg o (fun _ _ w => wpE_mono hg i (fun _ _ w => subW_mono (fun _ z => d.nx _ _ z) w) (fun _ _ _ _ w => x _ _ _ _ _ w) w) (fun _ _ _ _ w => x _ _ _ _ _ w) w) (fun _ _ _ _ w => x _ _ _ _ _ w) z
  | .fld o f e, _, _, _, _, _, _, _, d, x, z => wpE_mono hg e (fun _ _ w => wpE_mono hg o (fun _ _ w => by
      obtain ⟨n, C, fs, h1, h2, h3, h4, h5⟩ := w
      exact ⟨n, C, fs, h1, h2, h3, h4, d.nx _ _ h5⟩) (fun _ _ _ _ w => x _ _ _ _ _ w) w) (fun _ _ _ _ w => x _ _ _ _ _ w) z
  | .aug i op e, _, _, _, _, _, _, _, d, x, z => z.imp fun _ w => ⟨w.1, wpE_mono hg e (fun _ _ w => by
      obtain ⟨a, b, h1, h2, h3⟩ := w
      refine ⟨a, b, h1, h2, ?_⟩
      cases op <;> first | exact d.nx _ _ h3 | exact h3) (fun _ _ _ _ w => x _ _ _ _ _ w) w.2⟩
  | .augF o f op e, _, _, _, _, _, _, _, d, x, z => wpE_mono hg o (fun _ _ w => by
      obtain ⟨n, C, fs, a, h1, h2, h3, h4, h5⟩ := w
      refine ⟨n, C, fs, a, h1, h2, h3, h4, wpE_mono hg e (fun _ _ w => ?_) (fun _ _ _ _ w => x _ _ _ _ _ w) h5⟩
      obtain ⟨b, fs2, h1, h2, h3, h4, h5⟩ := w
      exact ⟨b, fs2, h1, h2, h3, h4, d.nx _ _ h5⟩) (fun _ _ _ _ w => x _ _ _ _ _ w) z
  | .ite c a b, _, _, _, _, _, _, _, d, x, z => wpB_mono hg c (fun k _ w => by
      cases k with
      | true => exact wpSs_mono a d x w
      | false => exact wpSs_mono b d x w) (fun _ _ _ _ w => x _ _ _ _ _ w) z
  | .for tg it b, _, _, _, _, _, _, _, d, x, z => wpI_mono hg it (fun _ _ _ w => forA_mono (fun _ _ _ _ _ le w => tgW_mono tg (fun _ w => wpSs_mono b le x w) w) _ d w) (fun _ _ _ _ w => x _ _ _ _ _ w) z
  | .while c b, _, _, _, _, _, _, _, d, x, z => by
    obtain ⟨n, w⟩ := z
    refine ⟨n, whA_mono (fun _ _ _ _ q w => ?_) (fun _ _ _ _ le w => ?_) n d w⟩
    · exact wpB_mono hg c q (fun _ _ _ _ w => x _ _ _ _ _ w) w
    · exact wpSs_mono b le x w
  | .ret e, _, _, _, _, _, _, _, d, x, z => wpE_mono hg e d.rt (fun _ _ _ _ w => x _ _ _ _ _ w) z
  | .retN, _, _, _, _, _, _, _, d, _, z => d.rt _ _ z
  | .ex e, _, _, _, _, _, _, _, d, x, z => wpE_mono hg e (fun _ _ w => d.nx _ _ w) (fun _ _ _ _ w => x _ _ _ _ _ w) z
  | .raise y as, _, _, _, _, _, _, _, _, x, z => z.imp fun fl w => ⟨w.1, wpEs_mono hg as (fun _ _ w => ⟨w.1, x _ _ _ _ _ w.2⟩) (fun _ _ _ _ w => x _ _ _ _ _ w) w.2⟩
  | .pass, _, _, _, _, _, _, _, d, _, z => d.nx _ _ z
  | .brk, _, _, _, _, _, _, _, d, _, z => d.bk _ _ z
  | .cont, _, _, _, _, _, _, _, d, _, z => d.ct _ _ z
  | .bad, _, _, _, _, _, _, _, _, _, z => z.elim
  | .try b hs el, _, _, _, _, _, _, _, d, x, z => by
    refine ⟨z.1, wpSs_mono b ?_ (fun _ _ _ _ _ w => ?_) z.2⟩
    · exact ⟨fun _ _ w => wpSs_mono el d x w, d.rt, d.bk, d.ct⟩
    · exact wpH_mono hs d x w
theorem wpSs_mono : ∀ (s : Ss) {xx : Option (String × List (String × A))} {D D' : En} {X X' : XS} {σ : SA} {h : Hh}, EnLe D D' → XSLe X X' → wpSs pg g xx s D X σ h → wpSs pg g xx s D' X' σ h
  | .nil, _, _, _, _, _, _, _, d, _, z => d.nx _ _ z
  | .cons s r, _, _, _, _, _, _, _, d, x, z => by
    refine wpS_mono s ?_ x z
    exact ⟨fun _ _ w => wpSs_mono r d x w, d.rt, d.bk, d.ct⟩
theorem wpH_mono : ∀ (hs : Hs) {xx : Option (String × List (String × A))} {k : Bool} {c : String} {fs : List (String × A)} {D D' : En} {X X' : XS} {σ : SA} {h : Hh}, EnLe D D' → XSLe X X' → wpH pg g xx hs k c fs D X σ h → wpH pg g xx hs k c fs D' X' σ h
  | .nil, _, _, _, _, _, _, _, _, _, _, _, x, z => x _ _ _ _ _ z
  | .cons cs sl b r, _, _, _, _, _, _, _, _, _, _, d, x, z => by
    unfold wpH at z ⊢
    refine ⟨z.1, ?_⟩
    have z := z.2
    split
    · rename_i e
      rw [if_pos e] at z
      refine ⟨z.1, wpSs_mono b ?_ (fun _ _ _ _ _ f => f) z.2⟩
      exact ⟨fun _ _ w => d.nx _ _ w, d.rt, fun _ _ w => d.bk _ _ w, fun _ _ w => d.ct _ _ w⟩
    · rename_i e
      rw [if_neg e] at z
      exact wpH_mono r d x z
  | .thrw cs y as r, _, _, _, _, _, _, _, _, _, _, d, x, z => by
    unfold wpH at z ⊢
    refine ⟨z.1, ?_⟩
    have z := z.2
    split
    · rename_i e
      rw [if_pos e] at z
      exact ⟨z.1, z.2.imp fun fl w => ⟨w.1, wpEs_mono hg as (fun _ _ w => ⟨w.1, x _ _ _ _ _ w.2⟩) (fun _ _ _ _ f => f) w.2⟩⟩
    · rename_i e
      rw [if_neg e] at z
      exact wpH_mono r d x z
  | .again _ _ _, _, _, _, _, _, _, _, _, _, _, _, _, z => z
end
end
theorem Γ_mono (pg : Pg) : ∀ k, GMono (Γ pg k)
  | 0 => fun _ _ _ _ _ _ _ _ _ z => z
  | k + 1 => fun f as h Q Q' X X' q x z => by
    obtain ⟨fn, h1, h2, h3⟩ := z
    refine ⟨fn, h1, h2, wpSs_mono (Γ_mono pg k) fn.body ?_ ?_ h3⟩
    · exact ⟨fun _ _ w => q _ _ w, q, fun _ _ f => f, fun _ _ f => f⟩
    · exact fun _ _ _ _ _ w => x _ _ _ _ w
/-- deeper may do what less deep can -/
theorem Γ_def {pg : Pg} {k : Nat} {x : String} {fn : Fn} {as : List A} {h : Hh} {Q : QV} {X : XQ} (e : pg.d x = some fn) (l : as.length = fn.ps.length)
    (w : wpSs pg (Γ pg k) none fn.body ⟨fun _ h1 => Q .non h1, Q, fun _ _ => False, fun _ _ => False⟩ (fun b c fs _ h1 => X b c fs h1) (startA fn.n as) h) : Γ pg (k + 1) (.d x) as h Q X := ⟨fn, e, l, w⟩
theorem Γ_meth {pg : Pg} {k : Nat} {C m : String} {fn : Fn} {as : List A} {h : Hh} {Q : QV} {X : XQ} (e : pg.m C m = some fn) (l : as.length = fn.ps.length)
    (w : wpSs pg (Γ pg k) none fn.body ⟨fun _ h1 => Q .non h1, Q, fun _ _ => False, fun _ _ => False⟩ (fun b c fs _ h1 => X b c fs h1) (startA fn.n as) h) : Γ pg (k + 1) (.m C m) as h Q X := ⟨fn, e, l, w⟩
end Z

/-! ### how the abstract heap stands in the layer's heap -/
namespace Z
open PySem PySem.Spec PyProof.Rows L2
/-- where the classes and the defs are -/
structure Ad where
  K : PySem.W.Frag
  cl : String → Option Addr
  fa : String → Option Addr
  ob : String → Bool
abbrev st (x : String) : PySem.Str := PySem.Str.ofString x
theorem st_inj {a b : String} (h : st a = st b) : a = b := by
  unfold st at h
  rw [PySem.Str.ofString_eq_toList, PySem.Str.ofString_eq_toList] at h
  have h1 := congrArg (fun z : PySem.Str => z.cps.toList) h
  simp only at h1
  have h2 : ∀ l m : List Char, l.map Char.toNat = m.map Char.toNat → l = m := by
    intro l
    induction l with
    | nil =>
      intro m e
      cases m with
      | nil => rfl
      | cons _ _ => cases e
    | cons x l ih =>
      intro m e
      cases m with
      | nil => cases e
      | cons y m =>
        rw [List.map_cons, List.map_cons, List.cons.injEq] at e
        rw [Char.toNat_inj.mp e.1, ih m e.2]
  exact String.toList_inj.mp (h2 _ _ h1)
/-- a list that nobody changes -/
def FrL (K : PySem.W.Frag) (H : Hp) (p : Addr) (vs : List V) : Prop := (∃ o, H p = some (.frz o (.lst vs))) ∨ SqL K (fun _ => none) p vs
theorem sqL_none {K : PySem.W.Frag} {H : Hp} {p : Addr} {vs : List V} (h : SqL K (fun _ => none) p vs) : SqL K H p vs := by
  rcases h with (h | ⟨o, h⟩) | h
  · cases h
  · cases h
  · exact .inr h
theorem sqT_none {K : PySem.W.Frag} {H : Hp} {p : Addr} {vs : List V} (h : SqT K (fun _ => none) p vs) : SqT K H p vs := by
  rcases h with (h | ⟨o, h⟩) | h
  · cases h
  · cases h
  · exact .inr h
theorem FrL.sq {K : PySem.W.Frag} {H : Hp} {p : Addr} {vs : List V} (h : FrL K H p vs) : SqL K H p vs := by
  rcases h with ⟨o, h⟩ | h
  · exact .inl (.inr ⟨o, h⟩)
  · exact sqL_none h
/-- a tuple without a dict, that nobody changes -/
def FtT (H : Hp) (p : Addr) (vs : List V) : Prop := ∃ o : Obj, H p = some (.frz o (.tup vs)) ∧ o.cls = .type "tuple" ∧ o.dict = none
def KtT (K : PySem.W.Frag) (H : Hp) (p : Addr) (vs : List V) : Prop := (SqT K (fun _ => none) p vs ∧ ∃ o : Obj, K.lookup p = some o ∧ o.cls = .type "tuple" ∧ o.dict = none) ∨ FtT H p vs
theorem KtT.sq {K : PySem.W.Frag} {H : Hp} {p : Addr} {vs : List V} (h : KtT K H p vs) : SqT K H p vs := by
  rcases h with ⟨h, _⟩ | ⟨o, h, _⟩
  · exact sqT_none h
  · exact .inl (.inr ⟨o, h⟩)
/-- what stays -/
structure Mo (K : PySem.W.Frag) (H H' : Hp) : Prop where
  tup : ∀ p vs, H p = some (.tup vs) → H' p = some (.tup vs)
  fro : ∀ p vs, FrL K H p vs → FrL K H' p vs
  xd : ∀ p ws, H p = some (.xd ws) → H' p = some (.xd ws)
  one : ∀ o u, H sysModules = some (.frz o u) → H' sysModules = some (.frz o u)
  ft : ∀ p vs, FtT H p vs → FtT H' p vs
theorem Mo.refl {K : PySem.W.Frag} {H : Hp} : Mo K H H := ⟨fun _ _ h => h, fun _ _ h => h, fun _ _ h => h, fun _ _ h => h, fun _ _ h => h⟩
theorem Mo.trans {K : PySem.W.Frag} {H H1 H2 : Hp} (a : Mo K H H1) (b : Mo K H1 H2) : Mo K H H2 := ⟨fun p vs h => b.tup p vs (a.tup p vs h), fun p vs h => b.fro p vs (a.fro p vs h), fun p ws h => b.xd p ws (a.xd p ws h), fun o u h => b.one o u (a.one o u h), fun p vs h => b.ft p vs (a.ft p vs h)⟩
theorem KtT.mono {K : PySem.W.Frag} {H H' : Hp} (m : Mo K H H') {p : Addr} {vs : List V} (h : KtT K H p vs) : KtT K H' p vs := h.imp id (m.ft p vs)
/-- no tuple, nothing frozen -/
def loose : Option HO → Prop
  | some (.tup _) => False
  | some (.frz _ _) => False
  | some (.xd _) => False
  | _ => True
theorem Mo.upd {K : PySem.W.Frag} {H : Hp} {p : Addr} {o : HO} (h : loose (H p)) : Mo K H (L2.upd H p o) := by
  constructor
  · intro q vs z
    rw [upd_ne]
    · exact z
    · rintro rfl
      rw [z] at h
      exact h
  · intro q vs z
    rcases z with ⟨ob, z⟩ | z
    · refine .inl ⟨ob, ?_⟩
      rw [upd_ne]
      · exact z
      · rintro rfl
        rw [z] at h
        exact h
    · exact .inr z
  · intro q ws z
    rw [upd_ne]
    · exact z
    · rintro rfl
      rw [z] at h
      exact h
  · intro o u z
    rw [upd_ne]
    · exact z
    · rintro rfl
      rw [z] at h
      exact h
  · rintro q vs ⟨ob, z, c1, c2⟩
    refine ⟨ob, ?_, c1, c2⟩
    rw [upd_ne]
    · exact z
    · rintro rfl
      rw [z] at h
      exact h
mutual
inductive VR (M : Ad) (ρ : List Addr) (H : Hp) : A → V → Prop
  | non : VR M ρ H .non .non
  | bl (b : Bool) : VR M ρ H (.bl b) (.bl b)
  | int (i : Int) : VR M ρ H (.int i) (.int i)
  | str (z : PySem.Str) : VR M ρ H (.str z) (.str z)
  | tup {xs : List A} {p : Addr} {vs : List V} : H p = some (.tup vs) → VRs M ρ H xs vs → VR M ρ H (.tup xs) (.ref p)
  | fro {xs : List A} {p : Addr} {vs : List V} : FrL M.K H p vs → VRs M ρ H xs vs → VR M ρ H (.fro xs) (.ref p)
  | kt {xs : List A} {p : Addr} {vs : List V} : KtT M.K H p vs → VRs M ρ H xs vs → VR M ρ H (.kt xs) (.ref p)
  | ref {n : Nat} {a : Addr} : ρ[n]? = some a → VR M ρ H (.ref n) (.ref a)
  | fn {x : String} {a : Addr} : M.fa x = some a → VR M ρ H (.fn x) (.ref a)
inductive VRs (M : Ad) (ρ : List Addr) (H : Hp) : List A → List V → Prop
  | nil : VRs M ρ H [] []
  | cons {x : A} {v : V} {xs : List A} {vs : List V} : VR M ρ H x v → VRs M ρ H xs vs → VRs M ρ H (x :: xs) (v :: vs)
end
theorem pre_get {α : Type} {l m : List α} {n : Nat} {a : α} (p : l <+: m) (h : l[n]? = some a) : m[n]? = some a := by
  obtain ⟨r, rfl⟩ := p
  rw [List.getElem?_append_left (List.getElem?_eq_some_iff.mp h).1]
  exact h
section
variable {M : Ad} {ρ ρ' : List Addr} {H H' : Hp}
mutual
theorem VR.mono (p : ρ <+: ρ') (m : Mo M.K H H') : ∀ {a : A} {v : V}, VR M ρ H a v → VR M ρ' H' a v
  | _, _, .non => .non
  | _, _, .bl b => .bl b
  | _, _, .int i => .int i
  | _, _, .str z => .str z
  | _, _, .tup h r => .tup (m.tup _ _ h) (VRs.mono p m r)
  | _, _, .fro h r => .fro (m.fro _ _ h) (VRs.mono p m r)
  | _, _, .kt h r => .kt (h.mono m) (VRs.mono p m r)
  | _, _, .ref h => .ref (pre_get p h)
  | _, _, .fn h => .fn h
theorem VRs.mono (p : ρ <+: ρ') (m : Mo M.K H H') : ∀ {a : List A} {v : List V}, VRs M ρ H a v → VRs M ρ' H' a v
  | _, _, .nil => .nil
  | _, _, .cons h r => .cons (VR.mono p m h) (VRs.mono p m r)
end
theorem VRs.length : ∀ {a : List A} {v : List V}, VRs M ρ H a v → a.length = v.length
  | _, _, .nil => rfl
  | _, _, .cons _ r => congrArg Nat.succ r.length
theorem VRs.get : ∀ {a : List A} {v : List V} {i : Nat} {x : A}, VRs M ρ H a v → a[i]? = some x → ∃ y, v[i]? = some y ∧ VR M ρ H x y
  | _, _, _, _, .nil, e => by cases e
  | _, _, 0, _, .cons h _, e => by
    cases e
    exact ⟨_, rfl, h⟩
  | _, _, i + 1, _, .cons _ r, e => VRs.get (i := i) r e
theorem VRs.none {a : List A} {v : List V} {i : Nat} (r : VRs M ρ H a v) (e : a[i]? = none) : v[i]? = none := by
  rw [List.getElem?_eq_none_iff] at e ⊢
  rw [← r.length]
  exact e
theorem VRs.append : ∀ {a b : List A} {v w : List V}, VRs M ρ H a v → VRs M ρ H b w → VRs M ρ H (a ++ b) (v ++ w)
  | _, _, _, _, .nil, s => s
  | _, _, _, _, .cons h r, s => .cons h (r.append s)
theorem VRs.set {x : A} {y : V} (h : VR M ρ H x y) : ∀ {a : List A} {v : List V} (i : Nat), VRs M ρ H a v → VRs M ρ H (a.set i x) (v.set i y)
  | _, _, _, .nil => .nil
  | _, _, 0, .cons _ r => .cons h r
  | _, _, i + 1, .cons q r => .cons q (VRs.set h i r)
theorem VRs.take : ∀ {a : List A} {v : List V} (n : Nat), VRs M ρ H a v → VRs M ρ H (a.take n) (v.take n)
  | _, _, 0, _ => .nil
  | _, _, _ + 1, .nil => .nil
  | _, _, n + 1, .cons h r => .cons h (r.take n)
theorem VRs.drop : ∀ {a : List A} {v : List V} (n : Nat), VRs M ρ H a v → VRs M ρ H (a.drop n) (v.drop n)
  | _, _, 0, r => r
  | _, _, _ + 1, .nil => .nil
  | _, _, n + 1, .cons _ r => r.drop n
theorem VRs.reverse {a : List A} {v : List V} (r : VRs M ρ H a v) : VRs M ρ H a.reverse v.reverse := by
  induction a generalizing v with
  | nil =>
    cases r
    exact .nil
  | cons x a ih =>
    cases r with
    | cons h r =>
      rw [List.reverse_cons, List.reverse_cons]
      exact (ih r).append (.cons h .nil)
theorem VRs.eraseIdx : ∀ {a : List A} {v : List V} (n : Nat), VRs M ρ H a v → VRs M ρ H (a.eraseIdx n) (v.eraseIdx n)
  | _, _, _, .nil => .nil
  | _, _, 0, .cons _ r => r
  | _, _, n + 1, .cons h r => .cons h (r.eraseIdx n)
theorem VRs.flatten {a : List A} {v : List V} (r : VRs M ρ H a v) : ∀ n : Nat, VRs M ρ H (List.replicate n a).flatten (List.replicate n v).flatten
  | 0 => .nil
  | n + 1 => by
    rw [List.replicate_succ, List.replicate_succ, List.flatten_cons, List.flatten_cons]
    exact r.append (VRs.flatten r n)
theorem VRs.ints : ∀ {ns : List Int} {v : List V}, VRs M ρ H (ns.map A.int) v → v = ns.map V.int
  | [], _, r => by
    cases r
    rfl
  | _ :: _, _, r => by
    cases r with
    | cons h r =>
      cases h
      rw [r.ints]
      rfl
theorem VRs.ofInts : ∀ ns : List Int, VRs M ρ H (ns.map A.int) (ns.map V.int)
  | [] => .nil
  | n :: r => .cons (.int n) (VRs.ofInts r)
theorem VRs.bls : ∀ {ns : List Bool} {v : List V}, VRs M ρ H (ns.map A.bl) v → v = ns.map V.bl
  | [], _, r => by
    cases r
    rfl
  | _ :: _, _, r => by
    cases r with
    | cons h r =>
      cases h
      rw [r.bls]
      rfl
theorem VRs.strs : ∀ {ns : List PySem.Str} {v : List V}, VRs M ρ H (ns.map A.str) v → v = ns.map V.str
  | [], _, r => by
    cases r
    rfl
  | _ :: _, _, r => by
    cases r with
    | cons h r =>
      cases h
      rw [r.strs]
      rfl
end
/-- slots -/
inductive OV (M : Ad) (ρ : List Addr) (H : Hp) : Option A → Option V → Prop
  | none {o : Option V} : OV M ρ H none o
  | some {x : A} {v : V} : VR M ρ H x v → OV M ρ H (some x) (some v)
abbrev SR (M : Ad) (ρ : List Addr) (H : Hp) : SA → L2.St → Prop := Paired (OV M ρ H)
/-- fields -/
abbrev FR (M : Ad) (ρ : List Addr) (H : Hp) : List (String × A) → List (PySem.Str × V) → Prop := Paired fun p q => q.1 = st p.1 ∧ VR M ρ H p.2 q.2
abbrev KR (M : Ad) (ρ : List Addr) (H : Hp) {κ : Type} : List (κ × A) → List (κ × V) → Prop := Paired fun p q => q.1 = p.1 ∧ VR M ρ H p.2 q.2
inductive OR (M : Ad) (ρ : List Addr) (H : Hp) (a : Addr) : O → Prop
  | lst {xs : List A} {vs : List V} : H a = some (.lst vs) → VRs M ρ H xs vs → OR M ρ H a (.lst xs)
  | dK {kvs : List (Key × A)} {ws : List (Key × V)} : H a = some (.dK ws) → KR M ρ H kvs ws → OR M ρ H a (.dK kvs)
  | dT {kvs : List (List Key × A)} {ws : List (List Key × V)} : H a = some (.dT ws) → KR M ρ H kvs ws → OR M ρ H a (.dT kvs)
  | ins {C : String} {Ca dx : Addr} {fs : List (String × A)} {ws : List (PySem.Str × V)} : M.ob C = true → M.cl C = some Ca → H a = some (.ins Ca dx ws) → FR M ρ H fs ws → OR M ρ H a (.ins C fs)
structure HR (M : Ad) (ρ : List Addr) (h : Hh) (H : Hp) : Prop where
  len : ρ.length = h.length
  nd : ρ.Nodup
  one : ∃ o, H sysModules = some (.frz o (.own 0))
  ob : ∀ (n : Nat) (a : Addr) (o : O), ρ[n]? = some a → h[n]? = some o → OR M ρ H a o
section
variable {M : Ad} {ρ ρ' : List Addr} {H H' : Hp} {h : Hh}
theorem OV.mono (p : ρ <+: ρ') (m : Mo M.K H H') {a : Option A} {v : Option V} (r : OV M ρ H a v) : OV M ρ' H' a v := by
  cases r with
  | none => exact .none
  | some r => exact .some (r.mono p m)
theorem SR.mono (p : ρ <+: ρ') (m : Mo M.K H H') {a : SA} {v : L2.St} (r : SR M ρ H a v) : SR M ρ' H' a v := Paired.mono (fun _ _ z => z.mono p m) r
theorem FR.mono (p : ρ <+: ρ') (m : Mo M.K H H') {a : List (String × A)} {v : List (PySem.Str × V)} (r : FR M ρ H a v) : FR M ρ' H' a v := Paired.mono (fun _ _ z => ⟨z.1, z.2.mono p m⟩) r
theorem KR.mono {κ : Type} (p : ρ <+: ρ') (m : Mo M.K H H') {a : List (κ × A)} {v : List (κ × V)} (r : KR M ρ H a v) : KR M ρ' H' a v := Paired.mono (fun _ _ z => ⟨z.1, z.2.mono p m⟩) r
theorem OR.mono {a : Addr} {o : O} (r : OR M ρ H a o) (p : ρ <+: ρ') (m : Mo M.K H H') (e : H' a = H a) : OR M ρ' H' a o := by
  cases r with
  | lst h r => exact .lst (e.trans h) (r.mono p m)
  | dK h r => exact .dK (e.trans h) (r.mono p m)
  | dT h r => exact .dT (e.trans h) (r.mono p m)
  | ins b c h r => exact .ins b c (e.trans h) (r.mono p m)
theorem OR.some {a : Addr} {o : O} (r : OR M ρ H a o) : ∃ u, H a = some u ∧ loose (some u) := by
  cases r with
  | lst h r => exact ⟨_, h, trivial⟩
  | dK h r => exact ⟨_, h, trivial⟩
  | dT h r => exact ⟨_, h, trivial⟩
  | ins b c h r => exact ⟨_, h, trivial⟩
theorem HR.at (r : HR M ρ h H) {n : Nat} {o : O} (e : h[n]? = some o) : ∃ a, ρ[n]? = some a ∧ OR M ρ H a o := by
  have l := (List.getElem?_eq_some_iff.mp e).1
  rw [← r.len] at l
  exact ⟨ρ[n], List.getElem?_eq_getElem l, r.ob n _ o (List.getElem?_eq_getElem l) e⟩
theorem HR.is (r : HR M ρ h H) {n : Nat} {a : Addr} (e : ρ[n]? = some a) : ∃ o, h[n]? = some o ∧ OR M ρ H a o := by
  have l := (List.getElem?_eq_some_iff.mp e).1
  rw [r.len] at l
  exact ⟨h[n], List.getElem?_eq_getElem l, r.ob n _ _ e (List.getElem?_eq_getElem l)⟩
theorem HR.tracked (r : HR M ρ h H) {a : Addr} (e : a ∈ ρ) : ∃ u, H a = some u ∧ loose (some u) := by
  obtain ⟨n, e⟩ := List.mem_iff_getElem?.mp e
  obtain ⟨o, _, q⟩ := r.is e
  exact q.some
/-- something else is laid -/
theorem HR.other (r : HR M ρ h H) {p : Addr} {u : HO} (n : H p = none) : HR M ρ h (upd H p u) := by
  refine ⟨r.len, r.nd, r.one.imp fun o z => (Mo.upd (K := M.K) (by rw [n]; trivial)).one o _ z, fun m a o e1 e2 => (r.ob m a o e1 e2).mono (List.prefix_refl _) (Mo.upd (by rw [n]; trivial)) (upd_ne ?_)⟩
  rintro rfl
  obtain ⟨w, hw, _⟩ := r.tracked (List.mem_of_getElem? e1)
  rw [n] at hw
  cases hw
/-- a new object -/
theorem HR.new (r : HR M ρ h H) {p : Addr} {u : HO} {o : O} (n : H p = none) (q : OR M (ρ ++ [p]) (upd H p u) p o) : HR M (ρ ++ [p]) (h ++ [o]) (upd H p u) := by
  have np : p ∉ ρ := fun z => by
    obtain ⟨w, hw, _⟩ := r.tracked z
    rw [n] at hw
    cases hw
  refine ⟨by rw [List.length_append, List.length_append, r.len]; rfl, ?_, r.one.imp fun o z => (Mo.upd (K := M.K) (by rw [n]; trivial)).one o _ z, fun m a ob e1 e2 => ?_⟩
  · rw [List.nodup_append]
    refine ⟨r.nd, List.pairwise_singleton _ _, fun x hx y hy => ?_⟩
    rw [List.mem_singleton] at hy
    rintro rfl
    exact np (hy ▸ hx)
  · by_cases hm : m < h.length
    · rw [List.getElem?_append_left hm] at e2
      rw [List.getElem?_append_left (by rw [r.len]; exact hm)] at e1
      refine (r.ob m a ob e1 e2).mono (List.prefix_append _ _) (Mo.upd (by rw [n]; trivial)) (upd_ne ?_)
      rintro rfl
      exact np (List.mem_of_getElem? e1)
    · have hl := (List.getElem?_eq_some_iff.mp e2).1
      rw [List.length_append, List.length_singleton] at hl
      have em : m = h.length := by omega
      subst em
      rw [List.getElem?_append_right (Nat.le_refl _), Nat.sub_self] at e2
      rw [← r.len, List.getElem?_append_right (Nat.le_refl _), Nat.sub_self] at e1
      cases e1
      cases e2
      exact q
/-- an object is changed -/
theorem HR.put (r : HR M ρ h H) {n : Nat} {a : Addr} {u : HO} {o : O} (e : ρ[n]? = some a) (q : OR M ρ (upd H a u) a o) : HR M ρ (h.set n o) (upd H a u) := by
  have mo : Mo M.K H (upd H a u) := by
    obtain ⟨w, hw, lw⟩ := r.tracked (List.mem_of_getElem? e)
    exact Mo.upd (by rw [hw]; exact lw)
  refine ⟨by rw [List.length_set]; exact r.len, r.nd, r.one.imp fun o z => mo.one o _ z, fun m b ob e1 e2 => ?_⟩
  by_cases hm : m = n
  · subst hm
    rw [e] at e1
    cases e1
    have hl := (List.getElem?_eq_some_iff.mp e2).1
    rw [List.length_set] at hl
    rw [List.getElem?_set_self hl] at e2
    cases e2
    exact q
  · rw [List.getElem?_set_ne (fun z => hm z.symm)] at e2
    obtain ⟨w, hw, lw⟩ := r.tracked (List.mem_of_getElem? e)
    refine (r.ob m b ob e1 e2).mono (List.prefix_refl _) (Mo.upd (by rw [hw]; exact lw)) (upd_ne ?_)
    rintro rfl
    obtain ⟨h1, h2⟩ := List.getElem?_eq_some_iff.mp e
    obtain ⟨h3, h4⟩ := List.getElem?_eq_some_iff.mp e1
    rcases Nat.lt_trichotomy m n with z | z | z
    · exact List.pairwise_iff_getElem.mp r.nd m n h3 h1 z (h4.trans h2.symm)
    · exact hm z
    · exact List.pairwise_iff_getElem.mp r.nd n m h1 h3 z (h2.trans h4.symm)
theorem HR.moAt (r : HR M ρ h H) {n : Nat} {a : Addr} {u : HO} (e : ρ[n]? = some a) : Mo M.K H (upd H a u) := by
  obtain ⟨w, hw, lw⟩ := r.tracked (List.mem_of_getElem? e)
  exact Mo.upd (by rw [hw]; exact lw)
theorem Mo.new {p : Addr} {u : HO} (n : H p = none) : Mo M.K H (L2.upd H p u) := Mo.upd (by rw [n]; trivial)
theorem SR.get {a : SA} {v : L2.St} {i : Nat} {x : A} (r : SR M ρ H a v) (e : a[i]? = some (some x)) : ∃ y, v[i]? = some (some y) ∧ VR M ρ H x y := by
  induction r generalizing i with
  | nil => cases e
  | cons h _ ih =>
    cases i with
    | zero =>
      simp only [List.getElem?_cons_zero, Option.some.injEq] at e
      subst e
      cases h with
      | some h => exact ⟨_, rfl, h⟩
    | succ i => exact ih e
theorem SR.set {a : SA} {v : L2.St} {i : Nat} {x : A} {y : V} (r : SR M ρ H a v) (e : VR M ρ H x y) : SR M ρ H (a.set i (some x)) (v.set i (some y)) := by
  induction r generalizing i with
  | nil => exact .nil
  | cons h t ih =>
    cases i with
    | zero => exact .cons (.some e) t
    | succ i => exact .cons h ih
theorem SR.unset {a : SA} {v : L2.St} {i : Nat} {o : Option V} (r : SR M ρ H a v) : SR M ρ H (a.set i none) (v.set i o) := by
  induction r generalizing i with
  | nil => exact .nil
  | cons h t ih =>
    cases i with
    | zero => exact .cons .none t
    | succ i => exact .cons h ih
theorem SR.wipe {a : SA} {v : L2.St} (r : SR M ρ H a v) : ∀ vs : List Nat, SR M ρ H (wipeA a vs) (L2.wipe v vs)
  | [] => r
  | _ :: vs => (SR.wipe r vs).unset
theorem SR.start {as : List A} {vs : List V} (r : VRs M ρ H as vs) (N : List PySem.Str) : SR M ρ H (startA N.length as) (L2.start N vs) := by
  unfold startA L2.start
  rw [r.length]
  have z : ∀ n, SR M ρ H (List.replicate n none) (List.replicate n none) := fun n => by
    induction n with
    | zero => exact .nil
    | succ n ih => exact .cons .none ih
  have y : ∀ {as : List A} {vs : List V}, VRs M ρ H as vs → ∀ {τ : SA} {υ : L2.St}, SR M ρ H τ υ → SR M ρ H (as.map some ++ τ) (vs.map some ++ υ) := by
    intro as
    induction as with
    | nil =>
      intro vs r τ υ q
      cases r
      exact q
    | cons x as ih =>
      intro vs r τ υ q
      cases r with
      | cons h r => exact .cons (.some h) (ih r q)
  exact y r (z _)
theorem FR.lookup {fs : List (String × A)} {ws : List (PySem.Str × V)} {f : String} {x : A} (r : FR M ρ H fs ws) (e : fs.lookup f = some x) : ∃ v, ws.lookup (st f) = some v ∧ VR M ρ H x v := by
  induction r with
  | nil => cases e
  | @cons p q fs ws h _ ih =>
    obtain ⟨k, y⟩ := p
    obtain ⟨k', v⟩ := q
    obtain ⟨h1, h2⟩ := h
    simp only at h1 h2
    subst h1
    by_cases z : f = k
    · subst z
      simp only [List.lookup, beq_self_eq_true, Option.some.injEq] at e ⊢
      subst e
      exact ⟨v, rfl, h2⟩
    · have z1 : (f == k) = false := beq_eq_false_iff_ne.mpr z
      have z2 : (st f == st k) = false := beq_eq_false_iff_ne.mpr fun y => z (st_inj y)
      simp only [List.lookup, z1, z2] at e ⊢
      exact ih e
theorem FR.none {fs : List (String × A)} {ws : List (PySem.Str × V)} {f : String} (r : FR M ρ H fs ws) (e : fs.lookup f = none) : ws.lookup (st f) = none := by
  induction r with
  | nil => rfl
  | @cons p q fs ws h _ ih =>
    obtain ⟨k, y⟩ := p
    obtain ⟨k', v⟩ := q
    obtain ⟨h1, h2⟩ := h
    simp only at h1 h2
    subst h1
    by_cases z : f = k
    · subst z
      simp only [List.lookup, beq_self_eq_true] at e
      cases e
    · have z1 : (f == k) = false := beq_eq_false_iff_ne.mpr z
      have z2 : (st f == st k) = false := beq_eq_false_iff_ne.mpr fun y => z (st_inj y)
      simp only [List.lookup, z1, z2] at e ⊢
      exact ih e
theorem FR.put {fs : List (String × A)} {ws : List (PySem.Str × V)} {f : String} {x : A} {v : V} (r : FR M ρ H fs ws) (e : VR M ρ H x v) : FR M ρ H (putA f x fs) (putF (st f) v ws) := by
  induction r with
  | nil => exact .cons ⟨rfl, e⟩ .nil
  | @cons p q fs ws h t ih =>
    obtain ⟨k, y⟩ := p
    obtain ⟨k', w⟩ := q
    obtain ⟨h1, h2⟩ := h
    simp only at h1 h2
    subst h1
    unfold putA putF
    by_cases z : k = f
    · subst z
      rw [if_pos rfl, if_pos rfl]
      exact .cons ⟨rfl, e⟩ t
    · rw [if_neg z, if_neg fun y => z (st_inj y)]
      exact .cons ⟨rfl, h2⟩ ih
theorem FR.length {fs : List (String × A)} {ws : List (PySem.Str × V)} (r : FR M ρ H fs ws) : fs.length = ws.length := Paired.length r
mutual
theorem Da.dp (r : HR M ρ h H) : ∀ {a : A} {d : PyData}, Da h a d → d.canLay0 = true → ∀ {v : V}, VR M ρ H a v → Dp M.K H v d
  | _, _, .non, _, _, .non => .non
  | _, _, .bl b, _, _, .bl _ => .bl b
  | _, _, .int i, _, _, .int _ => .int i
  | _, _, .str z, _, _, .str _ => .str z
  | _, _, .tup q, c, _, .tup s t => .tup (SqT.of s) (DaL.dp r q c t)
  | _, _, .kt q, c, _, .kt s t => .tup s.sq (DaL.dp r q c t)
  | _, _, .fro q, c, _, .fro s t => .lst s.sq (DaL.dp r q c t)
  | _, _, .lst e q, c, _, .ref s => by
    have z := r.ob _ _ _ s e
    cases z with
    | lst h1 h2 => exact .lst (SqL.of h1) (DaL.dp r q c h2)
  | _, _, .dct _ _, c, _, _ => by cases c
theorem DaL.dp (r : HR M ρ h H) : ∀ {a : List A} {d : List PyData}, DaL h a d → PyData.canLayAll0 d = true → ∀ {v : List V}, VRs M ρ H a v → DpAll M.K H v d
  | _, _, .nil, _, _, .nil => .nil
  | _, _, .cons p q, c, _, .cons s t => by
    have c := Bool.and_eq_true_iff.mp (show (_ && _) = true from c)
    exact .cons (Da.dp r p c.1 s) (DaL.dp r q c.2 t)
end
end
/-- what is reached -/
def Up (M : Ad) (ρ : List Addr) (H : Hp) (Q : VK) : QV := fun a h' => ∀ ρ' H' v, ρ <+: ρ' → Mo M.K H H' → HR M ρ' h' H' → VR M ρ' H' a v → Q v H'
def UpL (M : Ad) (ρ : List Addr) (H : Hp) (Q : List V → Hp → Prop) : QL := fun as h' => ∀ ρ' H' vs, ρ <+: ρ' → Mo M.K H H' → HR M ρ' h' H' → VRs M ρ' H' as vs → Q vs H'
def UpX (M : Ad) (ρ : List Addr) (H : Hp) (E : Bool → XK) : XQ := fun b c fs h' => ∀ ρ' H' C d ws, ρ <+: ρ' → Mo M.K H H' → HR M ρ' h' H' → M.cl c = some C → H' d = some (.xd ws) → FR M ρ' H' fs ws → E b (.ref C) (some d) H'
theorem Up.mono {M : Ad} {ρ ρ1 : List Addr} {H H1 : Hp} {Q : VK} (p : ρ <+: ρ1) (m : Mo M.K H H1) : QLe (Up M ρ H Q) (Up M ρ1 H1 Q) := fun _ _ q ρ' H' v p' m' hr vr => q ρ' H' v (p.trans p') (m.trans m') hr vr
theorem UpL.mono {M : Ad} {ρ ρ1 : List Addr} {H H1 : Hp} {Q : List V → Hp → Prop} (p : ρ <+: ρ1) (m : Mo M.K H H1) (a : List A) (h : Hh) (q : UpL M ρ H Q a h) : UpL M ρ1 H1 Q a h := fun ρ' H' v p' m' hr vr => q ρ' H' v (p.trans p') (m.trans m') hr vr
theorem UpX.mono {M : Ad} {ρ ρ1 : List Addr} {H H1 : Hp} {E : Bool → XK} (p : ρ <+: ρ1) (m : Mo M.K H H1) : XLe (UpX M ρ H E) (UpX M ρ1 H1 E) := fun _ _ _ _ q ρ' H' C d ws p' m' hr => q ρ' H' C d ws (p.trans p') (m.trans m') hr
end Z

/-! ### which text a term of the machine stands for -/
namespace Z
open PySem PySem.Spec PyProof.Rows L2
abbrev Hot := Option (Option PySem.Str)
abbrev Gsc (sc : Scope) (x : PySem.Str) : Prop := sc.names.lookup x = some NameKind.globalImplicit
def Bf.nm : Bf → String
  | .len => "len" | .max => "max" | .min => "min" | .list => "list" | .tuple => "tuple" | .int => "int" | .str => "str" | .abs => "abs" | .sum => "sum" | .any => "any" | .all => "all" | .sorted => "sorted" | .repr => "repr" | .divmod => "divmod" | .bool => "bool" | .lenset => "len" | .dict => "dict"
/-- is made of a class -/
def Bf.ty : Bf → Bool
  | .list => true | .tuple => true | .int => true | .str => true | .bool => true | .dict => true | _ => false
def Bf.calm : Bf → Bool
  | .len => false | .tuple => false | .int => false | .str => false | .repr => false | _ => true
def Bf.known : Bf → Bool
  | .lenset => false | .dict => false | .bool => false | .abs => false | _ => true
def Bm.nm : Bm → String
  | .append => "append" | .extend => "extend" | .pop => "pop" | .popat => "pop" | .reverse => "reverse" | .clear => "clear" | .insert => "insert" | .indexL => "index" | .indexT => "index" | .indexS => "index" | .join => "join" | .split => "split" | .startswith => "startswith" | .upper => "upper" | .strip => "strip" | .rstripC => "rstrip"
  | .get1 => "get" | .get2 => "get" | .setdefault => "setdefault" | .popD1 => "pop" | .items => "items" | .values => "values" | .keys => "keys"
def Bm.known : Bm → Bool
  | .append => true | .extend => true | .pop => true | .popat => true | .reverse => true | .clear => true | .insert => true | .indexL => true | .indexS => true | .join => true | .split => true | .startswith => true | .upper => true | .strip => true | .rstripC => true | _ => false
def noPair (n : Nat) : Expr → Bool
  | .Tuple _ _ _ => !(n == 2 || n == 3)
  | _ => true
def noLC : Expr → Bool
  | .ListComp .. => false | .SetComp .. => false | .DictComp .. => false | _ => true
/-- a cell that may be a target here -/
def cellT (b : Option Scope) (x : PySem.Str) : Bool := match b with
  | none => true
  | some s => s.names.lookup x == some .cell
mutual
inductive TG (N : List PySem.Str) : Option Scope → Scope → Tg → Expr → Prop
  | nm {b : Option Scope} {sc : Scope} {i : Nat} {x : PySem.Str} {pos : Pos} : N[i]? = some x → (sc.names.lookup x = some .local ∨ (cellT b x = true ∧ sc.names.lookup x = some .cell)) → TG N b sc (.nm i) (.Name x pos)
  | tp {b : Option Scope} {sc : Scope} {ts : List Tg} {es : List Expr} {k : Nat} {pos : Pos} : TGs N b sc ts es → TG N b sc (.tp ts) (.Tuple es k pos)
inductive TGs (N : List PySem.Str) : Option Scope → Scope → List Tg → List Expr → Prop
  | nil {b : Option Scope} {sc : Scope} : TGs N b sc [] []
  | cons {b : Option Scope} {sc : Scope} {t : Tg} {e : Expr} {ts : List Tg} {es : List Expr} : TG N b sc t e → TGs N b sc ts es → TGs N b sc (t :: ts) (e :: es)
end
mutual
def tgIn (vs : List Nat) : Tg → Bool
  | .nm i => vs.contains i
  | .tp ts => tgsIn vs ts
def tgsIn (vs : List Nat) : List Tg → Bool
  | [] => true
  | t :: ts => tgIn vs t && tgsIn vs ts
end
/-- names of classes -/
inductive TCs (sc : Scope) : List String → List Expr → Prop
  | nil : TCs sc [] []
  | cons {c : String} {cs : List String} {p : Pos} {es : List Expr} : Gsc sc (st c) → (st c == ("__debug__" : PySem.Str)) = false → TCs sc cs es → TCs sc (c :: cs) (.Name (st c) p :: es)
inductive TCl (sc : Scope) : List String → Expr → Prop
  | one {c : String} {e : Expr} : TCs sc [c] [e] → TCl sc [c] e
  | many {cs : List String} {es : List Expr} {k : Nat} {p : Pos} : TCs sc cs es → es.length ≤ 100 → TCl sc cs (.Tuple es k p)
/-- texts as a display's keys -/
inductive KsE : List PySem.Str → List (Option Expr) → Prop
  | nil : KsE [] []
  | cons {z : PySem.Str} {j : Nat} {pos : Pos} {ks : List PySem.Str} {ps : List (Option Expr)} : KsE ks ps → KsE (z :: ks) (some (.Constant (.str z) j pos) :: ps)
mutual
inductive TE (N : List PySem.Str) : Hot → Scope → E → Expr → Prop
  | var {hot : Hot} {sc : Scope} {i : Nat} {x : PySem.Str} {pos : Pos} : N[i]? = some x → Vis sc x → (x == ("__debug__" : PySem.Str)) = false → (x == ("__classdict__" : PySem.Str)) = false → TE N hot sc (.var i) (.Name x pos)
  | int {hot : Hot} {sc : Scope} {i : Int} {j : Nat} {pos : Pos} : TE N hot sc (.cst (.int i)) (.Constant (.int i) j pos)
  | str {hot : Hot} {sc : Scope} {z : PySem.Str} {j : Nat} {pos : Pos} : TE N hot sc (.cst (.str z)) (.Constant (.str z) j pos)
  | bl {hot : Hot} {sc : Scope} {b : Bool} {j : Nat} {pos : Pos} : TE N hot sc (.cst (.bl b)) (.Constant (.bool b) j pos)
  | non {hot : Hot} {sc : Scope} {j : Nat} {pos : Pos} : TE N hot sc (.cst .non) (.Constant .none j pos)
  | glob {hot : Hot} {sc : Scope} {x : String} {pos : Pos} : Gsc sc (st x) → (st x == ("__debug__" : PySem.Str)) = false → TE N hot sc (.glob x) (.Name (st x) pos)
  | bin {hot : Hot} {sc : Scope} {op : Operator} {a b : E} {x y : Expr} {pos : Pos} : TE N hot sc a x → TE N hot sc b y → TE N hot sc (.bin op a b) (.BinOp x op y pos)
  | cmp {hot : Hot} {sc : Scope} {op : CmpOp} {a b : E} {x y : Expr} {pos : Pos} : TE N hot sc a x → TE N hot sc b y → TE N hot sc (.cmp op a b) (.Compare x [op] [y] pos)
  | ch2 {hot : Hot} {sc : Scope} {o p : CmpOp} {a b c : E} {x y z : Expr} {pos : Pos} : TE N hot sc a x → TE N hot sc b y → TE N hot sc c z → TE N hot sc (.ch2 o p a b c) (.Compare x [o, p] [y, z] pos)
  | ch3 {hot : Hot} {sc : Scope} {o p q : CmpOp} {a b c d : E} {x y z u : Expr} {pos : Pos} : TE N hot sc a x → TE N hot sc b y → TE N hot sc c z → TE N hot sc d u → TE N hot sc (.ch3 o p q a b c d) (.Compare x [o, p, q] [y, z, u] pos)
  | neg {hot : Hot} {sc : Scope} {a : E} {x : Expr} {pos : Pos} : TE N hot sc a x → TE N hot sc (.neg a) (.UnaryOp .USub x pos)
  | and {hot : Hot} {sc : Scope} {as : Es} {xs : List Expr} {pos : Pos} : TEs N hot sc as xs → TE N hot sc (.and as) (.BoolOp .And xs pos)
  | or {hot : Hot} {sc : Scope} {as : Es} {xs : List Expr} {pos : Pos} : TEs N hot sc as xs → TE N hot sc (.or as) (.BoolOp .Or xs pos)
  | not {hot : Hot} {sc : Scope} {a : E} {x : Expr} {pos : Pos} : TE N hot sc a x → TE N hot sc (.not a) (.UnaryOp .Not x pos)
  | ite {hot : Hot} {sc : Scope} {c a b : E} {z x y : Expr} {pos : Pos} : TE N hot sc c z → TE N hot sc a x → TE N hot sc b y → TE N hot sc (.ite c a b) (.IfExp z x y pos)
  | idx {hot : Hot} {sc : Scope} {a b : E} {x y : Expr} {pos : Pos} : TE N hot sc a x → TE N hot sc b y → TE N hot sc (.idx a b) (.Subscript x y pos)
  | slc {hot : Hot} {sc : Scope} {a lo hi : E} {x : Expr} {l u : Option Expr} {p2 pos : Pos} : TE N hot sc a x → TO N hot sc lo l → TO N hot sc hi u → TE N hot sc (.slc a lo hi) (.Subscript x (.Slice l u none p2) pos)
  | rev {hot : Hot} {sc : Scope} {a : E} {x : Expr} {k : Nat} {p1 p2 p3 pos : Pos} : TE N hot sc a x → TE N hot sc (.rev a) (.Subscript x (.Slice none none (some (.UnaryOp .USub (.Constant (.int 1) k p1) p2)) p3) pos)
  | tup {hot : Hot} {sc : Scope} {as : Es} {xs : List Expr} {k : Nat} {pos : Pos} : TEs N hot sc as xs → TE N hot sc (.tup as) (.Tuple xs k pos)
  | lst {hot : Hot} {sc : Scope} {as : Es} {xs : List Expr} {pos : Pos} : TEs N hot sc as xs → TE N hot sc (.lst as) (.List xs pos)
  | dnew {hot : Hot} {sc : Scope} {t : Bool} {pos : Pos} : TE N hot sc (.dnew t) (.Dict [] [] pos)
  | dsp {hot : Hot} {sc : Scope} {ks : List PySem.Str} {as : Es} {ps : List (Option Expr)} {xs : List Expr} {pos : Pos} : KsE ks ps → ps.length = xs.length → ps ≠ [] → ps.length ≤ 15 → TEs N hot sc as xs → TE N hot sc (.dsp ks as) (.Dict ps xs pos)
  | call {sc : Scope} {f : String} {as : Es} {xs : List Expr} {p pos : Pos} : Gsc sc (st f) → (st f == ("__debug__" : PySem.Str)) = false → (st f != ("super" : PySem.Str)) = true → TEs N none sc as xs → TE N none sc (.call f as) (.Call (.Name (st f) p) xs [] pos)
  | blt {hot : Hot} {sc : Scope} {f : Bf} {a : E} {as : Es} {x : Expr} {xs : List Expr} {p pos : Pos} : (f.calm = true → hot = none) → f.known = true → Gsc sc (st f.nm) → TE N hot sc a x → TEs N hot sc as xs → TE N hot sc (.blt f (.cons a as)) (.Call (.Name (st f.nm) p) (x :: xs) [] pos)
  | isi {hot : Hot} {sc : Scope} {a : E} {cs : List String} {x c : Expr} {p pos : Pos} : Gsc sc ("isinstance" : PySem.Str) → TE N hot sc a x → TCl sc cs c → TE N hot sc (.isi a cs) (.Call (.Name ("isinstance" : PySem.Str) p) [x, c] [] pos)
  | meth {sc : Scope} {o : E} {m : String} {as : Es} {x : Expr} {xs : List Expr} {ap pos : Pos} : TE N none sc o x → TEs N none sc as xs → xs.length < 30 → (ap.endLine == pos.line) = true → TE N none sc (.meth o m as) (.Call (.Attribute x (st m) ap) xs [] pos)
  | bm {hot : Hot} {sc : Scope} {m : Bm} {o : E} {as : Es} {x : Expr} {xs : List Expr} {ap pos : Pos} : TE N hot sc o x → TEs N hot sc as xs → xs.length < 30 → (ap.endLine == pos.line) = true → m.known = true → TE N hot sc (.bm m o as) (.Call (.Attribute x (st m.nm) ap) xs [] pos)
  | mk {sc : Scope} {C : String} {as : Es} {xs : List Expr} {p pos : Pos} : Gsc sc (st C) → (st C == ("__debug__" : PySem.Str)) = false → (st C != ("super" : PySem.Str)) = true → TEs N none sc as xs → TE N none sc (.mk C as) (.Call (.Name (st C) p) xs [] pos)
  | fld {hot : Hot} {sc : Scope} {o : E} {f : String} {x : Expr} {pos : Pos} : TE N hot sc o x → TE N hot sc (.fld o f) (.Attribute x (st f) pos)
  | lc {sc scope : Scope} {own : List (PySem.Str × Nat)} {tg : Tg} {it : I} {c elt : E} {x tgE itE : Expr} {ifs : List Expr} {pos : Pos} : blkC N sc scope own = true → tgIn (own.map (·.2)) tg = true → TI N none sc it tgE itE → TG N (some scope) (relS scope sc) tg tgE → TC N (relS scope sc) c ifs → TE N none (relS scope sc) elt x →
      TE N none sc (.lc (own.map (·.2)) tg it c elt) (.ListComp x [⟨tgE, itE, ifs, 0⟩] scope pos)
  | xfld {sc : Scope} {n : PySem.Str} {f : String} {p pos : Pos} : TE N (some (some n)) sc (.xfld f) (.Attribute (.Name n p) (st f) pos)
  | xis {sc : Scope} {n : PySem.Str} {ds : List String} {c : Expr} {p p2 pos : Pos} : Gsc sc ("isinstance" : PySem.Str) → TCl sc ds c → TE N (some (some n)) sc (.xis ds) (.Call (.Name ("isinstance" : PySem.Str) p) [.Name n p2, c] [] pos)
  | fnv {hot : Hot} {sc : Scope} {x : String} {pos : Pos} : Gsc sc (st x) → (st x == ("__debug__" : PySem.Str)) = false → TE N hot sc (.fnv x) (.Name (st x) pos)
  | tix {sc : Scope} {o a : E} {x y : Expr} {ap pos : Pos} : TE N none sc o x → TE N none sc a y → (ap.endLine == pos.line) = true → TE N none sc (.tix o a) (.Call (.Attribute x (st "index") ap) [y] [] pos)
  | callv {sc : Scope} {i : Nat} {x : PySem.Str} {a : E} {as : Es} {y : Expr} {ys : List Expr} {p pos : Pos} : N[i]? = some x → Vis sc x → (x == ("__debug__" : PySem.Str)) = false → (x == ("__classdict__" : PySem.Str)) = false → TE N none sc a y → TEs N none sc as ys → TE N none sc (.callv i (.cons a as)) (.Call (.Name x p) (y :: ys) [] pos)
  | listR {sc : Scope} {a : E} {as : Es} {x : Expr} {xs : List Expr} {p p2 pos pos2 : Pos} : Gsc sc ("list" : PySem.Str) → Gsc sc ("range" : PySem.Str) → TE N none sc a x → TEs N none sc as xs → TE N none sc (.bx .listR (.cons a as)) (.Call (.Name ("list" : PySem.Str) p) [.Call (.Name ("range" : PySem.Str) p2) (x :: xs) [] pos2] [] pos)
  | listRev {sc : Scope} {a : E} {x : Expr} {p p2 pos pos2 : Pos} : Gsc sc ("list" : PySem.Str) → Gsc sc ("reversed" : PySem.Str) → TE N none sc a x → TE N none sc (.bx .listRev (.cons a .nil)) (.Call (.Name ("list" : PySem.Str) p) [.Call (.Name ("reversed" : PySem.Str) p2) [x] [] pos2] [] pos)
  | lenset {sc : Scope} {a : E} {x : Expr} {p p2 pos pos2 : Pos} : Gsc sc ("len" : PySem.Str) → Gsc sc ("set" : PySem.Str) → TE N none sc a x → TE N none sc (.bx .lenset (.cons a .nil)) (.Call (.Name ("len" : PySem.Str) p) [.Call (.Name ("set" : PySem.Str) p2) [x] [] pos2] [] pos)
inductive TO (N : List PySem.Str) : Hot → Scope → E → Option Expr → Prop
  | no {hot : Hot} {sc : Scope} : TO N hot sc .no none
  | some {hot : Hot} {sc : Scope} {a : E} {x : Expr} : TE N hot sc a x → TO N hot sc a (some x)
inductive TC (N : List PySem.Str) : Scope → E → List Expr → Prop
  | no {sc : Scope} : TC N sc .no []
  | one {sc : Scope} {a : E} {x : Expr} : TE N none sc a x → TC N sc a [x]
inductive TEs (N : List PySem.Str) : Hot → Scope → Es → List Expr → Prop
  | nil {hot : Hot} {sc : Scope} : TEs N hot sc .nil []
  | cons {hot : Hot} {sc : Scope} {a : E} {as : Es} {x : Expr} {xs : List Expr} : TE N hot sc a x → TEs N hot sc as xs → TEs N hot sc (.cons a as) (x :: xs)
inductive TI (N : List PySem.Str) : Hot → Scope → I → Expr → Expr → Prop
  | ex {hot : Hot} {sc : Scope} {a : E} {tg x : Expr} : TE N hot sc a x → TI N hot sc (.ex a) tg x
  | rng {hot : Hot} {sc : Scope} {as : Es} {tg : Expr} {xs : List Expr} {p pos : Pos} : (xs.length == 1 || (xs.length == 2 || xs.length == 3)) = true → Gsc sc ("range" : PySem.Str) → TEs N hot sc as xs → TI N hot sc (.rng as) tg (.Call (.Name ("range" : PySem.Str) p) xs [] pos)
  | enm {hot : Hot} {sc : Scope} {a : E} {x : Expr} {es : List Expr} {k : Nat} {tp p pos : Pos} : Gsc sc ("enumerate" : PySem.Str) → TE N hot sc a x → TI N hot sc (.enm a) (.Tuple es k tp) (.Call (.Name ("enumerate" : PySem.Str) p) [x] [] pos)
  | zip {hot : Hot} {sc : Scope} {a b : E} {x y : Expr} {es : List Expr} {k : Nat} {tp p pos : Pos} : Gsc sc ("zip" : PySem.Str) → TE N hot sc a x → TE N hot sc b y → TI N hot sc (.zip a b) (.Tuple es k tp) (.Call (.Name ("zip" : PySem.Str) p) [x, y] [] pos)
  | revR {hot : Hot} {sc : Scope} {a : E} {tg x : Expr} {p p2 pos pos2 : Pos} : Gsc sc ("reversed" : PySem.Str) → Gsc sc ("range" : PySem.Str) → TE N hot sc a x → TI N hot sc (.revR (.cons a .nil)) tg (.Call (.Name ("reversed" : PySem.Str) p) [.Call (.Name ("range" : PySem.Str) p2) [x] [] pos2] [] pos)
  | rev {hot : Hot} {sc : Scope} {a : E} {tg x : Expr} {p pos : Pos} : Gsc sc ("reversed" : PySem.Str) → TE N hot sc a x → TI N hot sc (.rev a) tg (.Call (.Name ("reversed" : PySem.Str) p) [x] [] pos)
end
mutual
inductive TS (N : List PySem.Str) : Hot → Scope → S → Stmt → Prop
  | set {hot : Hot} {sc : Scope} {i : Nat} {e : E} {x : PySem.Str} {v : Expr} {p pos : Pos} : N[i]? = some x → Loc sc x → hot ≠ some (some x) → noLC v = true → TE N hot sc e v → TS N hot sc (.set i e) (.Assign [.Name x p] v pos)
  | setL {sc : Scope} {i : Nat} {vs : List Nat} {tg : Tg} {it : I} {c elt : E} {x : PySem.Str} {v : Expr} {gs : List Comprehension} {scope : Scope} {p p2 pos : Pos} : N[i]? = some x → sc.names.lookup x = some .local → (p.line == p2.line) = true → (scope.names.any fun (n, k) => n == x && (k == .local || k == .cell)) = false →
      TE N none sc (.lc vs tg it c elt) (.ListComp v gs scope p2) → TS N none sc (.set i (.lc vs tg it c elt)) (.Assign [.Name x p] (.ListComp v gs scope p2) pos)
  | setC {sc : Scope} {i : Nat} {e : E} {x : PySem.Str} {v : Expr} {gs : List Comprehension} {scope : Scope} {p p2 pos : Pos} : N[i]? = some x → sc.names.lookup x = some .cell → TE N none sc e (.ListComp v gs scope p2) → TS N none sc (.set i e) (.Assign [.Name x p] (.ListComp v gs scope p2) pos)
  | asg {sc : Scope} {ts : List Tg} {e : E} {es : List Expr} {k : Nat} {v : Expr} {p pos : Pos} : TGs N none sc ts es → TE N none sc e v → noPair es.length v = true → TS N none sc (.asg (.tp ts) e) (.Assign [.Tuple es k p] v pos)
  | par2 {sc : Scope} {i j : Nat} {a b : E} {x y : PySem.Str} {u v : Expr} {px py p p2 pos : Pos} {k k2 : Nat} : N[i]? = some x → N[j]? = some y → i ≠ j → x ≠ y → sc.names.lookup x = some .local → sc.names.lookup y = some .local → (py.line == px.line) = true → [u, v].all (foldedForSure 8) = false → [u, v].all (constantsAlone 8) = false → TE N none sc a u → TE N none sc b v →
      TS N none sc (.par [i, j] (.cons a (.cons b .nil))) (.Assign [.Tuple [.Name x px, .Name y py] k p] (.Tuple [u, v] k2 p2) pos)
  | sub {hot : Hot} {sc : Scope} {o i e : E} {x y v : Expr} {p pos : Pos} : TE N hot sc e v → TE N hot sc o x → TE N hot sc i y → TS N hot sc (.sub o i e) (.Assign [.Subscript x y p] v pos)
  | parS {sc : Scope} {o i p j a b : E} {x y x2 y2 u v : Expr} {q q2 q3 q4 pos : Pos} {k k2 : Nat} : TE N none sc a u → TE N none sc b v → TE N none sc o x → TE N none sc i y → TE N none sc p x2 → TE N none sc j y2 → TS N none sc (.parS o i p j (.cons a (.cons b .nil))) (.Assign [.Tuple [.Subscript x y q, .Subscript x2 y2 q2] k q3] (.Tuple [u, v] k2 q4) pos)
  | fld {hot : Hot} {sc : Scope} {o e : E} {f : String} {x v : Expr} {p pos : Pos} : TE N hot sc e v → TE N hot sc o x → TS N hot sc (.fld o f e) (.Assign [.Attribute x (st f) p] v pos)
  | aug {hot : Hot} {sc : Scope} {i : Nat} {op : Operator} {e : E} {x : PySem.Str} {v : Expr} {p pos : Pos} : N[i]? = some x → Loc sc x → hot ≠ some (some x) → (op = .Add ∨ op = .Sub) → TE N hot sc e v → TS N hot sc (.aug i op e) (.AugAssign (.Name x p) op v pos)
  | augF {hot : Hot} {sc : Scope} {o e : E} {f : String} {x v : Expr} {p pos : Pos} : TE N hot sc o x → TE N hot sc e v → TS N hot sc (.augF o f .Add e) (.AugAssign (.Attribute x (st f) p) .Add v pos)
  | ite {hot : Hot} {sc : Scope} {c : E} {a b : Ss} {z : Expr} {x y : List Stmt} {pos : Pos} : TE N hot sc c z → TSs N hot sc a x → TSs N hot sc b y → TS N hot sc (.ite c a b) (.If z x y pos)
  | for {sc : Scope} {tg : Tg} {it : I} {b : Ss} {tgE itE : Expr} {body : List Stmt} {pos : Pos} : TI N none sc it tgE itE → TG N none sc tg tgE → TSs N none sc b body → TS N none sc (.for tg it b) (.For tgE itE body [] pos)
  | while {sc : Scope} {c : E} {b : Ss} {z : Expr} {body : List Stmt} {pos : Pos} : TE N none sc c z → TSs N none sc b body → TS N none sc (.while c b) (.While z body [] pos)
  | ret {hot : Hot} {sc : Scope} {e : E} {v : Expr} {pos : Pos} : TE N hot sc e v → TS N hot sc (.ret e) (.Return (some v) pos)
  | retN {hot : Hot} {sc : Scope} {pos : Pos} : TS N hot sc .retN (.Return none pos)
  | ex {hot : Hot} {sc : Scope} {e : E} {v : Expr} {pos : Pos} : noLC v = true → TE N hot sc e v → TS N hot sc (.ex e) (.Expr v pos)
  | raise {sc : Scope} {x : String} {a : E} {as : Es} {u : Expr} {us : List Expr} {p pos pos2 : Pos} : Gsc sc (st x) → (st x == ("__debug__" : PySem.Str)) = false → TE N none sc a u → TEs N none sc as us → TS N none sc (.raise x (.cons a as)) (.Raise (some (.Call (.Name (st x) p) (u :: us) [] pos)) none pos2)
  | pass {hot : Hot} {sc : Scope} {pos : Pos} : TS N hot sc .pass (.Pass pos)
  | brk {hot : Hot} {sc : Scope} {pos : Pos} : TS N hot sc .brk (.Break pos)
  | cont {hot : Hot} {sc : Scope} {pos : Pos} : TS N hot sc .cont (.Continue pos)
  | bad {hot : Hot} {sc : Scope} {s : Stmt} : TS N hot sc .bad s
  | try {sc : Scope} {b el : Ss} {h : Hs} {body orelse : List Stmt} {hd : ExceptHandler} {hds : List ExceptHandler} {pos : Pos} : TSs N none sc b body → TH N sc h (hd :: hds) → TSs N none sc el orelse → TS N none sc (.try b h el) (.Try body (hd :: hds) orelse [] pos)
inductive TSs (N : List PySem.Str) : Hot → Scope → Ss → List Stmt → Prop
  | nil {hot : Hot} {sc : Scope} : TSs N hot sc .nil []
  | cons {hot : Hot} {sc : Scope} {s : S} {r : Ss} {x : Stmt} {xs : List Stmt} : TS N hot sc s x → TSs N hot sc r xs → TSs N hot sc (.cons s r) (x :: xs)
inductive TH (N : List PySem.Str) : Scope → Hs → List ExceptHandler → Prop
  | nil {sc : Scope} : TH N sc .nil []
  | only {sc : Scope} {c : String} {b : Ss} {r : Hs} {s : Stmt} {ss : List Stmt} {p pos : Pos} {hds : List ExceptHandler} : Gsc sc (st c) → (st c == ("__debug__" : PySem.Str)) = false → TSs N (some none) sc b (s :: ss) → TH N sc r hds →
      TH N sc (.cons [c] none b r) (.ExceptHandler (some (.Name (st c) p)) none (s :: ss) pos :: hds)
  | named {sc : Scope} {c : String} {i : Nat} {n : PySem.Str} {b : Ss} {r : Hs} {s : Stmt} {ss : List Stmt} {p pos : Pos} {hds : List ExceptHandler} : Gsc sc (st c) → (st c == ("__debug__" : PySem.Str)) = false → N[i]? = some n → sc.names.lookup n = some .local → (n == ("__debug__" : PySem.Str)) = false → (n == ("__classdict__" : PySem.Str)) = false → TSs N (some (some n)) sc b (s :: ss) → TH N sc r hds →
      TH N sc (.cons [c] (some i) b r) (.ExceptHandler (some (.Name (st c) p)) (some n) (s :: ss) pos :: hds)
  | thrw {sc : Scope} {c x : String} {i : Nat} {n : PySem.Str} {r : Hs} {j : Nat} {p p2 p3 p4 p5 p6 pos : Pos} {hds : List ExceptHandler} : Gsc sc (st c) → (st c == ("__debug__" : PySem.Str)) = false → Gsc sc (st x) → (st x == ("__debug__" : PySem.Str)) = false → N[i]? = some n → (sc.names.lookup n = some .local ∨ sc.names.lookup n = some .cell) →
      (n == ("__debug__" : PySem.Str)) = false → (n == ("__classdict__" : PySem.Str)) = false → TH N sc r hds →
      TH N sc (.thrw [c] x (.cons (.var i) .nil) r) (.ExceptHandler (some (.Name (st c) p)) none [.Raise (some (.Call (.Name (st x) p2) [.Name n p3] [] p4)) (some (.Constant .none j p5)) p6] pos :: hds)
end
end Z

/-! ### the check, with its proof -/
namespace Z
open PySem PySem.Spec PyProof.Rows L2
section
variable (N : List PySem.Str)
def okIf {P : Prop} (p : Prop) [Decidable p] (f : p → Option (PLift P)) : Option (PLift P) := if h : p then f h else none
mutual
def yTG (b : Option Scope) (sc : Scope) : (t : Tg) → (e : Expr) → Option (PLift (TG N b sc t e))
  | .nm i, .Name x pos => okIf (N[i]? = some x) fun h => okIf (sc.names.lookup x = some .local ∨ (cellT b x = true ∧ sc.names.lookup x = some .cell)) fun h2 => some ⟨.nm h h2⟩
  | .tp ts, .Tuple es k pos => match yTGs b sc ts es with
    | some ⟨p⟩ => some ⟨.tp p⟩
    | none => none
  | _, _ => none
def yTGs (b : Option Scope) (sc : Scope) : (t : List Tg) → (e : List Expr) → Option (PLift (TGs N b sc t e))
  | [], [] => some ⟨.nil⟩
  | t :: ts, e :: es => match yTG b sc t e, yTGs b sc ts es with
    | some ⟨p⟩, some ⟨q⟩ => some ⟨.cons p q⟩
    | _, _ => none
  | _, _ => none
end
def yCs (sc : Scope) : (cs : List String) → (es : List Expr) → Option (PLift (TCs sc cs es))
  | [], [] => some ⟨.nil⟩
  | c :: cs, .Name x p :: es => okIf (x = st c) fun h => okIf (Gsc sc (st c)) fun h1 => okIf ((st c == ("__debug__" : PySem.Str)) = false) fun h2 => match yCs sc cs es with
    | some ⟨q⟩ => some ⟨h ▸ .cons h1 h2 q⟩
    | none => none
  | _, _ => none
def yCl (sc : Scope) : (cs : List String) → (e : Expr) → Option (PLift (TCl sc cs e))
  | cs, .Tuple es k p => okIf (es.length ≤ 100) fun h => match yCs sc cs es with
    | some ⟨q⟩ => some ⟨.many q h⟩
    | none => none
  | [c], e => match yCs sc [c] [e] with
    | some ⟨q⟩ => some ⟨.one q⟩
    | none => none
  | _, _ => none
def yKs : (ks : List PySem.Str) → (ps : List (Option Expr)) → Option (PLift (KsE ks ps))
  | [], [] => some ⟨.nil⟩
  | z :: ks, some (.Constant (.str y) _ _) :: ps => okIf (y = z) fun h => match yKs ks ps with
    | some ⟨q⟩ => some ⟨h ▸ .cons q⟩
    | none => none
  | _, _ => none
mutual
def yE : (hot : Hot) → (sc : Scope) → (c : E) → (e : Expr) → Option (PLift (TE N hot sc c e))
  | hot, sc, .var i, .Name x pos => okIf (N[i]? = some x) fun h1 => okIf (sc.names.lookup x = some .local ∨ sc.names.lookup x = some .cell ∨ sc.names.lookup x = some .free) fun h2 => okIf ((x == ("__debug__" : PySem.Str)) = false) fun h3 => okIf ((x == ("__classdict__" : PySem.Str)) = false) fun h4 => some ⟨.var h1 h2 h3 h4⟩
  | hot, sc, .cst (.int i), .Constant (.int j) _ _ => okIf (j = i) fun h => some ⟨h ▸ .int⟩
  | hot, sc, .cst (.str i), .Constant (.str j) _ _ => okIf (j = i) fun h => some ⟨h ▸ .str⟩
  | hot, sc, .cst (.bl i), .Constant (.bool j) _ _ => okIf (j = i) fun h => some ⟨h ▸ .bl⟩
  | hot, sc, .cst .non, .Constant .none _ _ => some ⟨.non⟩
  | hot, sc, .glob x, .Name y _ => okIf (y = st x) fun h => okIf (Gsc sc (st x)) fun h1 => okIf ((st x == ("__debug__" : PySem.Str)) = false) fun h2 => some ⟨h ▸ .glob h1 h2⟩
  | hot, sc, .bin op a b, .BinOp x o y _ => okIf (o = op) fun h => match yE hot sc a x, yE hot sc b y with
    | some ⟨p⟩, some ⟨q⟩ => some ⟨h ▸ .bin p q⟩
    | _, _ => none
  | hot, sc, .cmp op a b, .Compare x [o] [y] _ => okIf (o = op) fun h => match yE hot sc a x, yE hot sc b y with
    | some ⟨p⟩, some ⟨q⟩ => some ⟨h ▸ .cmp p q⟩
    | _, _ => none
  | hot, sc, .ch2 o1 o2 a b c, .Compare x [o, p] [y, z] _ => okIf (o = o1) fun h => okIf (p = o2) fun h2 => match yE hot sc a x, yE hot sc b y, yE hot sc c z with
    | some ⟨p⟩, some ⟨q⟩, some ⟨r⟩ => some ⟨h ▸ h2 ▸ .ch2 p q r⟩
    | _, _, _ => none
  | hot, sc, .ch3 o1 o2 o3 a b c d, .Compare x [o, p, q] [y, z, u] _ => okIf (o = o1) fun h => okIf (p = o2) fun h2 => okIf (q = o3) fun h3 => match yE hot sc a x, yE hot sc b y, yE hot sc c z, yE hot sc d u with
    | some ⟨p⟩, some ⟨q⟩, some ⟨r⟩, some ⟨s⟩ => some ⟨h ▸ h2 ▸ h3 ▸ .ch3 p q r s⟩
    | _, _, _, _ => none
  | hot, sc, .neg a, .UnaryOp .USub x _ => match yE hot sc a x with
    | some ⟨p⟩ => some ⟨.neg p⟩
    | none => none
  | hot, sc, .and as, .BoolOp .And xs _ => match yEs hot sc as xs with
    | some ⟨p⟩ => some ⟨.and p⟩
    | none => none
  | hot, sc, .or as, .BoolOp .Or xs _ => match yEs hot sc as xs with
    | some ⟨p⟩ => some ⟨.or p⟩
    | none => none
  | hot, sc, .not a, .UnaryOp .Not x _ => match yE hot sc a x with
    | some ⟨p⟩ => some ⟨.not p⟩
    | none => none
  | hot, sc, .ite c a b, .IfExp z x y _ => match yE hot sc c z, yE hot sc a x, yE hot sc b y with
    | some ⟨p⟩, some ⟨q⟩, some ⟨r⟩ => some ⟨.ite p q r⟩
    | _, _, _ => none
  | hot, sc, .idx a b, .Subscript x y _ => match yE hot sc a x, yE hot sc b y with
    | some ⟨p⟩, some ⟨q⟩ => some ⟨.idx p q⟩
    | _, _ => none
  | hot, sc, .slc a .no .no, .Subscript x (.Slice none none none _) _ => match yE hot sc a x with
    | some ⟨p⟩ => some ⟨.slc p .no .no⟩
    | none => none
  | hot, sc, .slc a lo .no, .Subscript x (.Slice (some l) none none _) _ => match yE hot sc a x, yE hot sc lo l with
    | some ⟨p⟩, some ⟨q⟩ => some ⟨.slc p (.some q) .no⟩
    | _, _ => none
  | hot, sc, .slc a .no hi, .Subscript x (.Slice none (some u) none _) _ => match yE hot sc a x, yE hot sc hi u with
    | some ⟨p⟩, some ⟨q⟩ => some ⟨.slc p .no (.some q)⟩
    | _, _ => none
  | hot, sc, .slc a lo hi, .Subscript x (.Slice (some l) (some u) none _) _ => match yE hot sc a x, yE hot sc lo l, yE hot sc hi u with
    | some ⟨p⟩, some ⟨q⟩, some ⟨r⟩ => some ⟨.slc p (.some q) (.some r)⟩
    | _, _, _ => none
  | hot, sc, .rev a, .Subscript x (.Slice none none (some (.UnaryOp .USub (.Constant (.int 1) _ _) _)) _) _ => match yE hot sc a x with
    | some ⟨p⟩ => some ⟨.rev p⟩
    | none => none
  | hot, sc, .tup as, .Tuple xs _ _ => match yEs hot sc as xs with
    | some ⟨p⟩ => some ⟨.tup p⟩
    | none => none
  | hot, sc, .lst as, .List xs _ => match yEs hot sc as xs with
    | some ⟨p⟩ => some ⟨.lst p⟩
    | none => none
  | hot, sc, .dnew t, .Dict [] [] _ => some ⟨.dnew⟩
  | hot, sc, .dsp ks as, .Dict ps xs _ => okIf (ps.length = xs.length) fun h1 => okIf (ps ≠ []) fun h2 => okIf (ps.length ≤ 15) fun h3 => match yKs ks ps, yEs hot sc as xs with
    | some ⟨q⟩, some ⟨p⟩ => some ⟨.dsp q h1 h2 h3 p⟩
    | _, _ => none
  | none, sc, .call f as, .Call (.Name y _) xs [] _ => okIf (y = st f) fun h => okIf (Gsc sc (st f)) fun h1 => okIf ((st f == ("__debug__" : PySem.Str)) = false) fun h2 => okIf ((st f != ("super" : PySem.Str)) = true) fun h3 => match yEs none sc as xs with
    | some ⟨p⟩ => some ⟨h ▸ .call h1 h2 h3 p⟩
    | none => none
  | hot, sc, .blt f (.cons a as), .Call (.Name y _) (x :: xs) [] _ => okIf (f.calm = true → hot = none) fun h0 => okIf (f.known = true) fun hk => okIf (y = st f.nm) fun h => okIf (Gsc sc (st f.nm)) fun h1 => match yE hot sc a x, yEs hot sc as xs with
    | some ⟨p⟩, some ⟨q⟩ => some ⟨h ▸ .blt h0 hk h1 p q⟩
    | _, _ => none
  | hot, sc, .isi a cs, .Call (.Name y _) [x, c] [] _ => okIf (y = ("isinstance" : PySem.Str)) fun h => okIf (Gsc sc ("isinstance" : PySem.Str)) fun h1 => match yE hot sc a x, yCl sc cs c with
    | some ⟨p⟩, some ⟨q⟩ => some ⟨h ▸ .isi h1 p q⟩
    | _, _ => none
  | none, sc, .meth o m as, .Call (.Attribute x y ap) xs [] pos => okIf (y = st m) fun h => okIf (xs.length < 30) fun h1 => okIf ((ap.endLine == pos.line) = true) fun h2 => match yE none sc o x, yEs none sc as xs with
    | some ⟨p⟩, some ⟨q⟩ => some ⟨h ▸ .meth p q h1 h2⟩
    | _, _ => none
  | hot, sc, .bm m o as, .Call (.Attribute x y ap) xs [] pos => okIf (y = st m.nm) fun h => okIf (xs.length < 30) fun h1 => okIf ((ap.endLine == pos.line) = true) fun h2 => okIf (m.known = true) fun h3 => match yE hot sc o x, yEs hot sc as xs with
    | some ⟨p⟩, some ⟨q⟩ => some ⟨h ▸ .bm p q h1 h2 h3⟩
    | _, _ => none
  | none, sc, .mk f as, .Call (.Name y _) xs [] _ => okIf (y = st f) fun h => okIf (Gsc sc (st f)) fun h1 => okIf ((st f == ("__debug__" : PySem.Str)) = false) fun h2 => okIf ((st f != ("super" : PySem.Str)) = true) fun h3 => match yEs none sc as xs with
    | some ⟨p⟩ => some ⟨h ▸ .mk h1 h2 h3 p⟩
    | none => none
  | hot, sc, .fld o f, .Attribute x y _ => okIf (y = st f) fun h => match yE hot sc o x with
    | some ⟨p⟩ => some ⟨h ▸ .fld p⟩
    | none => none
  | none, sc, .lc vs tg it .no elt, .ListComp x [⟨tgE, itE, [], 0⟩] scope _ => okIf ((vs.map fun i => (N.getD i PySem.Str.empty, i)).map (·.2) = vs) fun hv => okIf (blkC N sc scope (vs.map fun i => (N.getD i PySem.Str.empty, i)) = true) fun h1 => okIf (tgIn ((vs.map fun i => (N.getD i PySem.Str.empty, i)).map (·.2)) tg = true) fun h2 =>
    match yI none sc it tgE itE, yTG N (some scope) (relS scope sc) tg tgE, some (PLift.up trivial), yE none (relS scope sc) elt x with
    | some ⟨p⟩, some ⟨q⟩, some ⟨r⟩, some ⟨s⟩ => some ⟨hv ▸ .lc h1 h2 p q .no s⟩
    | _, _, _, _ => none
  | none, sc, .lc vs tg it c elt, .ListComp x [⟨tgE, itE, [y], 0⟩] scope _ => okIf ((vs.map fun i => (N.getD i PySem.Str.empty, i)).map (·.2) = vs) fun hv => okIf (blkC N sc scope (vs.map fun i => (N.getD i PySem.Str.empty, i)) = true) fun h1 => okIf (tgIn ((vs.map fun i => (N.getD i PySem.Str.empty, i)).map (·.2)) tg = true) fun h2 =>
    match yI none sc it tgE itE, yTG N (some scope) (relS scope sc) tg tgE, yE none (relS scope sc) c y, yE none (relS scope sc) elt x with
    | some ⟨p⟩, some ⟨q⟩, some ⟨r⟩, some ⟨s⟩ => some ⟨hv ▸ .lc h1 h2 p q (.one r) s⟩
    | _, _, _, _ => none
  | some (some n), sc, .xfld f, .Attribute (.Name m _) y _ => okIf (m = n) fun h1 => okIf (y = st f) fun h => some ⟨h ▸ h1 ▸ .xfld⟩
  | some (some n), sc, .xis ds, .Call (.Name y _) [.Name m _, c] [] _ => okIf (y = ("isinstance" : PySem.Str)) fun h => okIf (m = n) fun hm => okIf (Gsc sc ("isinstance" : PySem.Str)) fun h1 => match yCl sc ds c with
    | some ⟨p⟩ => some ⟨h ▸ hm ▸ .xis h1 p⟩
    | none => none
  | hot, sc, .fnv x, .Name y _ => okIf (y = st x) fun h => okIf (Gsc sc (st x)) fun h1 => okIf ((st x == ("__debug__" : PySem.Str)) = false) fun h2 => some ⟨h ▸ .fnv h1 h2⟩
  | none, sc, .tix o a, .Call (.Attribute x m ap) [y] [] pos => okIf (m = st "index") fun h => okIf ((ap.endLine == pos.line) = true) fun h2 => match yE none sc o x, yE none sc a y with
    | some ⟨p⟩, some ⟨q⟩ => some ⟨h ▸ .tix p q h2⟩
    | _, _ => none
  | none, sc, .callv i (.cons a as), .Call (.Name x _) (y :: ys) [] _ => okIf (N[i]? = some x) fun h1 => okIf (sc.names.lookup x = some .local ∨ sc.names.lookup x = some .cell ∨ sc.names.lookup x = some .free) fun h2 => okIf ((x == ("__debug__" : PySem.Str)) = false) fun h3 => okIf ((x == ("__classdict__" : PySem.Str)) = false) fun h4 => match yE none sc a y, yEs none sc as ys with
    | some ⟨p⟩, some ⟨q⟩ => some ⟨.callv h1 h2 h3 h4 p q⟩
    | _, _ => none
  | none, sc, .bx .listR (.cons a as), .Call (.Name y _) [.Call (.Name y2 _) (x :: xs) [] _] [] _ => okIf (y = ("list" : PySem.Str)) fun h => okIf (y2 = ("range" : PySem.Str)) fun h2 => okIf (Gsc sc ("list" : PySem.Str)) fun h3 => okIf (Gsc sc ("range" : PySem.Str)) fun h4 => match yE none sc a x, yEs none sc as xs with
    | some ⟨p⟩, some ⟨q⟩ => some ⟨h ▸ h2 ▸ .listR h3 h4 p q⟩
    | _, _ => none
  | none, sc, .bx .listRev (.cons a .nil), .Call (.Name y _) [.Call (.Name y2 _) [x] [] _] [] _ => okIf (y = ("list" : PySem.Str)) fun h => okIf (y2 = ("reversed" : PySem.Str)) fun h2 => okIf (Gsc sc ("list" : PySem.Str)) fun h3 => okIf (Gsc sc ("reversed" : PySem.Str)) fun h4 => match yE none sc a x with
    | some ⟨p⟩ => some ⟨h ▸ h2 ▸ .listRev h3 h4 p⟩
    | none => none
  | none, sc, .bx .lenset (.cons a .nil), .Call (.Name y _) [.Call (.Name y2 _) [x] [] _] [] _ => okIf (y = ("len" : PySem.Str)) fun h => okIf (y2 = ("set" : PySem.Str)) fun h2 => okIf (Gsc sc ("len" : PySem.Str)) fun h3 => okIf (Gsc sc ("set" : PySem.Str)) fun h4 => match yE none sc a x with
    | some ⟨p⟩ => some ⟨h ▸ h2 ▸ .lenset h3 h4 p⟩
    | none => none
  | _, _, _, _ => none
termination_by structural _ _ c => c
def yEs : (hot : Hot) → (sc : Scope) → (c : Es) → (e : List Expr) → Option (PLift (TEs N hot sc c e))
  | hot, sc, .nil, [] => some ⟨.nil⟩
  | hot, sc, .cons a as, x :: xs => match yE hot sc a x, yEs hot sc as xs with
    | some ⟨p⟩, some ⟨q⟩ => some ⟨.cons p q⟩
    | _, _ => none
  | _, _, _, _ => none
termination_by structural _ _ c => c
def yI : (hot : Hot) → (sc : Scope) → (c : I) → (tg e : Expr) → Option (PLift (TI N hot sc c tg e))
  | hot, sc, .ex a, tg, x => match yE hot sc a x with
    | some ⟨p⟩ => some ⟨.ex p⟩
    | none => none
  | hot, sc, .rng as, tg, .Call (.Name y _) xs [] _ => okIf (y = ("range" : PySem.Str)) fun h => okIf ((xs.length == 1 || (xs.length == 2 || xs.length == 3)) = true) fun h0 => okIf (Gsc sc ("range" : PySem.Str)) fun h1 => match yEs hot sc as xs with
    | some ⟨p⟩ => some ⟨h ▸ .rng h0 h1 p⟩
    | none => none
  | hot, sc, .enm a, .Tuple _ _ _, .Call (.Name y _) [x] [] _ => okIf (y = ("enumerate" : PySem.Str)) fun h => okIf (Gsc sc ("enumerate" : PySem.Str)) fun h1 => match yE hot sc a x with
    | some ⟨p⟩ => some ⟨h ▸ .enm h1 p⟩
    | none => none
  | hot, sc, .zip a b, .Tuple _ _ _, .Call (.Name y _) [x, z] [] _ => okIf (y = ("zip" : PySem.Str)) fun h => okIf (Gsc sc ("zip" : PySem.Str)) fun h1 => match yE hot sc a x, yE hot sc b z with
    | some ⟨p⟩, some ⟨q⟩ => some ⟨h ▸ .zip h1 p q⟩
    | _, _ => none
  | hot, sc, .revR (.cons a .nil), tg, .Call (.Name y _) [.Call (.Name y2 _) [x] [] _] [] _ => okIf (y = ("reversed" : PySem.Str)) fun h => okIf (y2 = ("range" : PySem.Str)) fun h' => okIf (Gsc sc ("reversed" : PySem.Str)) fun h1 => okIf (Gsc sc ("range" : PySem.Str)) fun h2 => match yE hot sc a x with
    | some ⟨p⟩ => some ⟨h ▸ h' ▸ .revR h1 h2 p⟩
    | none => none
  | hot, sc, .rev a, tg, .Call (.Name y _) [x] [] _ => okIf (y = ("reversed" : PySem.Str)) fun h => okIf (Gsc sc ("reversed" : PySem.Str)) fun h1 => match yE hot sc a x with
    | some ⟨p⟩ => some ⟨h ▸ .rev h1 p⟩
    | none => none
  | _, _, _, _, _ => none
termination_by structural _ _ c => c
end
mutual
def yS : (hot : Hot) → (sc : Scope) → (c : S) → (e : Stmt) → Option (PLift (TS N hot sc c e))
  | none, sc, .set i (.lc vs tg it c elt), .Assign [.Name x p] (.ListComp v gs scope p2) pos => okIf (N[i]? = some x) fun h1 => match yE N none sc (.lc vs tg it c elt) (.ListComp v gs scope p2) with
    | some ⟨q⟩ => if h2 : sc.names.lookup x = some .cell then some ⟨.setC h1 h2 q⟩ else okIf (sc.names.lookup x = some .local) fun h3 => okIf ((p.line == p2.line) = true) fun h4 => okIf ((scope.names.any fun (n, k) => n == x && (k == .local || k == .cell)) = false) fun h5 => some ⟨.setL h1 h3 h4 h5 q⟩
    | none => none
  | hot, sc, .set i e, .Assign [.Name x p] v pos => okIf (N[i]? = some x) fun h1 => okIf (sc.names.lookup x = some .local ∨ sc.names.lookup x = some .cell) fun h2 => okIf (hot ≠ some (some x)) fun h0 => okIf (noLC v = true) fun h3 => match yE N hot sc e v with
    | some ⟨q⟩ => some ⟨.set h1 h2 h0 h3 q⟩
    | none => none
  | none, sc, .asg (.tp ts) e, .Assign [.Tuple es k p] v pos => okIf (noPair es.length v = true) fun h => match yTGs N none sc ts es, yE N none sc e v with
    | some ⟨p⟩, some ⟨q⟩ => some ⟨.asg p q h⟩
    | _, _ => none
  | none, sc, .par [i, j] (.cons a (.cons b .nil)), .Assign [.Tuple [.Name x px, .Name y py] k p] (.Tuple [u, v] k2 p2) pos => okIf (N[i]? = some x) fun h1 => okIf (N[j]? = some y) fun h2 => okIf (i ≠ j) fun h3 => okIf (x ≠ y) fun h4 => okIf (sc.names.lookup x = some .local) fun h5 => okIf (sc.names.lookup y = some .local) fun h6 =>
      okIf ((py.line == px.line) = true) fun h7 => okIf ([u, v].all (foldedForSure 8) = false) fun h8 => okIf ([u, v].all (constantsAlone 8) = false) fun h9 => match yE N none sc a u, yE N none sc b v with
    | some ⟨p⟩, some ⟨q⟩ => some ⟨.par2 h1 h2 h3 h4 h5 h6 h7 h8 h9 p q⟩
    | _, _ => none
  | hot, sc, .sub o i e, .Assign [.Subscript x y p] v pos => match yE N hot sc e v, yE N hot sc o x, yE N hot sc i y with
    | some ⟨p⟩, some ⟨q⟩, some ⟨r⟩ => some ⟨.sub p q r⟩
    | _, _, _ => none
  | hot, sc, .fld o f e, .Assign [.Attribute x y p] v pos => okIf (y = st f) fun h => match yE N hot sc e v, yE N hot sc o x with
    | some ⟨p⟩, some ⟨q⟩ => some ⟨h ▸ .fld p q⟩
    | _, _ => none
  | hot, sc, .aug i op e, .AugAssign (.Name x p) o v pos => okIf (o = op) fun h => okIf (N[i]? = some x) fun h1 => okIf (sc.names.lookup x = some .local ∨ sc.names.lookup x = some .cell) fun h2 => okIf (hot ≠ some (some x)) fun h0 => okIf (o = .Add ∨ o = .Sub) fun h9 => match yE N hot sc e v with
    | some ⟨q⟩ => some ⟨h ▸ .aug h1 h2 h0 h9 q⟩
    | none => none
  | none, sc, .parS o i p j (.cons a (.cons b .nil)), .Assign [.Tuple [.Subscript x y q, .Subscript x2 y2 q2] k q3] (.Tuple [u, v] k2 q4) pos => match yE N none sc a u, yE N none sc b v, yE N none sc o x, yE N none sc i y, yE N none sc p x2, yE N none sc j y2 with
    | some ⟨r1⟩, some ⟨r2⟩, some ⟨r3⟩, some ⟨r4⟩, some ⟨r5⟩, some ⟨r6⟩ => some ⟨.parS r1 r2 r3 r4 r5 r6⟩
    | _, _, _, _, _, _ => none
  | hot, sc, .augF o f .Add e, .AugAssign (.Attribute x y p) .Add v pos => okIf (y = st f) fun h => match yE N hot sc o x, yE N hot sc e v with
    | some ⟨p⟩, some ⟨q⟩ => some ⟨h ▸ .augF p q⟩
    | _, _ => none
  | hot, sc, .ite c a b, .If z x y pos => match yE N hot sc c z, ySs hot sc a x, ySs hot sc b y with
    | some ⟨p⟩, some ⟨q⟩, some ⟨r⟩ => some ⟨.ite p q r⟩
    | _, _, _ => none
  | none, sc, .for tg it b, .For tgE itE body [] pos => match yI N none sc it tgE itE, yTG N none sc tg tgE, ySs none sc b body with
    | some ⟨p⟩, some ⟨q⟩, some ⟨r⟩ => some ⟨.for p q r⟩
    | _, _, _ => none
  | none, sc, .while c b, .While z body [] pos => match yE N none sc c z, ySs none sc b body with
    | some ⟨p⟩, some ⟨q⟩ => some ⟨.while p q⟩
    | _, _ => none
  | hot, sc, .ret e, .Return (some v) pos => match yE N hot sc e v with
    | some ⟨q⟩ => some ⟨.ret q⟩
    | none => none
  | hot, sc, .retN, .Return none pos => some ⟨.retN⟩
  | hot, sc, .ex e, .Expr v pos => okIf (noLC v = true) fun h => match yE N hot sc e v with
    | some ⟨q⟩ => some ⟨.ex h q⟩
    | none => none
  | none, sc, .raise x (.cons a as), .Raise (some (.Call (.Name y p) (u :: us) [] pos)) none pos2 => okIf (y = st x) fun h => okIf (Gsc sc (st x)) fun h1 => okIf ((st x == ("__debug__" : PySem.Str)) = false) fun h2 => match yE N none sc a u, yEs N none sc as us with
    | some ⟨p⟩, some ⟨q⟩ => some ⟨h ▸ .raise h1 h2 p q⟩
    | _, _ => none
  | hot, sc, .pass, .Pass pos => some ⟨.pass⟩
  | hot, sc, .brk, .Break pos => some ⟨.brk⟩
  | hot, sc, .cont, .Continue pos => some ⟨.cont⟩
  | hot, sc, .bad, s => some ⟨.bad⟩
  | none, sc, .try b h el, .Try body (hd :: hds) orelse [] pos => match ySs none sc b body, yH sc h (hd :: hds), ySs none sc el orelse with
    | some ⟨p⟩, some ⟨q⟩, some ⟨r⟩ => some ⟨.try p q r⟩
    | _, _, _ => none
  | _, _, _, _ => none
termination_by structural _ _ c => c
def ySs : (hot : Hot) → (sc : Scope) → (c : Ss) → (e : List Stmt) → Option (PLift (TSs N hot sc c e))
  | hot, sc, .nil, [] => some ⟨.nil⟩
  | hot, sc, .cons a as, x :: xs => match yS hot sc a x, ySs hot sc as xs with
    | some ⟨p⟩, some ⟨q⟩ => some ⟨.cons p q⟩
    | _, _ => none
  | _, _, _, _ => none
termination_by structural _ _ c => c
def yH : (sc : Scope) → (c : Hs) → (e : List ExceptHandler) → Option (PLift (TH N sc c e))
  | sc, .nil, [] => some ⟨.nil⟩
  | sc, .cons [c] none b r, .ExceptHandler (some (.Name y p)) none (s :: ss) pos :: hds => okIf (y = st c) fun h => okIf (Gsc sc (st c)) fun h1 => okIf ((st c == ("__debug__" : PySem.Str)) = false) fun h2 => match ySs (some none) sc b (s :: ss), yH sc r hds with
    | some ⟨p⟩, some ⟨q⟩ => some ⟨h ▸ .only h1 h2 p q⟩
    | _, _ => none
  | sc, .cons [c] (some i) b r, .ExceptHandler (some (.Name y p)) (some n) (s :: ss) pos :: hds => okIf (y = st c) fun h => okIf (Gsc sc (st c)) fun h1 => okIf ((st c == ("__debug__" : PySem.Str)) = false) fun h2 => okIf (N[i]? = some n) fun h3 => okIf (sc.names.lookup n = some .local) fun h4 => okIf ((n == ("__debug__" : PySem.Str)) = false) fun h5 => okIf ((n == ("__classdict__" : PySem.Str)) = false) fun h6 => match ySs (some (some n)) sc b (s :: ss), yH sc r hds with
    | some ⟨p⟩, some ⟨q⟩ => some ⟨h ▸ .named h1 h2 h3 h4 h5 h6 p q⟩
    | _, _ => none
  | sc, .thrw [c] x (.cons (.var i) .nil) r, .ExceptHandler (some (.Name y p)) none [.Raise (some (.Call (.Name y2 p2) [.Name n p3] [] p4)) (some (.Constant .none j p5)) p6] pos :: hds => okIf (y = st c) fun h => okIf (y2 = st x) fun h' => okIf (Gsc sc (st c)) fun h1 => okIf ((st c == ("__debug__" : PySem.Str)) = false) fun h2 =>
    okIf (Gsc sc (st x)) fun h3 => okIf ((st x == ("__debug__" : PySem.Str)) = false) fun h4 => okIf (N[i]? = some n) fun h5 => okIf (sc.names.lookup n = some .local ∨ sc.names.lookup n = some .cell) fun h6 => okIf ((n == ("__debug__" : PySem.Str)) = false) fun h7 => okIf ((n == ("__classdict__" : PySem.Str)) = false) fun h8 => match yH sc r hds with
    | some ⟨q⟩ => some ⟨h ▸ h' ▸ .thrw h1 h2 h3 h4 h5 h6 h7 h8 q⟩
    | _ => none
  | _, _, _ => none
termination_by structural _ c => c
end
end
theorem y_ok {N : List PySem.Str} {sc : Scope} {c : Ss} {e : List Stmt} (h : (ySs N none sc c e).isSome = true) : TSs N none sc c e := by
  cases z : ySs N none sc c e with
  | none => rw [z] at h; cases h
  | some p => exact p.down
end Z

namespace Z
open PySem PySem.Spec PyProof.Rows L2 SeqAt
theorem int_ne_dict (b : Int) (u : Tok) (l : Addr) (di : Option Addr) (es : Array DictEntry) (ep : Nat) (sl : Array (Option Value)) : Meets (Builtin.«int.__ne__» ⟨[.int b u, .ref l], []⟩) (fun _ R s => s.heap.get? l = some { cls := .type "dict", dict := di, data := .dict es ep, slots := sl } ∧ R (.ok (.ret .notImplemented)) s) :=
  .of_wp fun prog w A R s h => by obtain ⟨hp, g, d, tk, os⟩ := s; obtain ⟨hl, h⟩ := h; wp_walk using wpAny_loadPart' hl, wpAny_load hl; exact ⟨_, rfl, h⟩
theorem int_eq_dict (b : Int) (u : Tok) (l : Addr) (di : Option Addr) (es : Array DictEntry) (ep : Nat) (sl : Array (Option Value)) : Meets (Builtin.«int.__eq__» ⟨[.int b u, .ref l], []⟩) (fun _ R s => s.heap.get? l = some { cls := .type "dict", dict := di, data := .dict es ep, slots := sl } ∧ R (.ok (.ret .notImplemented)) s) :=
  .of_wp fun prog w A R s h => by obtain ⟨hp, g, d, tk, os⟩ := s; obtain ⟨hl, h⟩ := h; wp_walk using wpAny_loadPart' hl, wpAny_load hl; exact ⟨_, rfl, h⟩
theorem str_ne_dict (b : PySem.Str) (u : Tok) (l : Addr) (di : Option Addr) (es : Array DictEntry) (ep : Nat) (sl : Array (Option Value)) : Meets (Builtin.«str.__ne__» ⟨[.str b u, .ref l], []⟩) (fun _ R s => s.heap.get? l = some { cls := .type "dict", dict := di, data := .dict es ep, slots := sl } ∧ R (.ok (.ret .notImplemented)) s) :=
  .of_wp fun prog w A R s h => by obtain ⟨hp, g, d, tk, os⟩ := s; obtain ⟨hl, h⟩ := h; wp_walk using wpAny_loadPart' hl, wpAny_load hl; exact ⟨_, rfl, h⟩
theorem str_eq_dict (b : PySem.Str) (u : Tok) (l : Addr) (di : Option Addr) (es : Array DictEntry) (ep : Nat) (sl : Array (Option Value)) : Meets (Builtin.«str.__eq__» ⟨[.str b u, .ref l], []⟩) (fun _ R s => s.heap.get? l = some { cls := .type "dict", dict := di, data := .dict es ep, slots := sl } ∧ R (.ok (.ret .notImplemented)) s) :=
  .of_wp fun prog w A R s h => by obtain ⟨hp, g, d, tk, os⟩ := s; obtain ⟨hl, h⟩ := h; wp_walk using wpAny_loadPart' hl, wpAny_load hl; exact ⟨_, rfl, h⟩
section
variable {prog : Program} {w : World} {A : Around} {E : Value → Shared → Prop} {s : Shared} {l : Addr} {di : Option Addr} {es : Array DictEntry} {ep : Nat} {sl : Array (Option Value)}
theorem rcNe_dict_int {Q : Value → Shared → Prop} (b : Int) (u : Tok) (ho : s.heap.get? l = some { cls := .type "dict", dict := di, data := .dict es ep, slots := sl }) (hu : A.units < cLine) (h : Q (.bool true) s) : wpAny (model prog w) A (compareOp .NotEq (.ref l) (.int b u)) Q E s := by
  have hd : s.TypeIs (.ref l) "dict" := ⟨_, ho, rfl⟩
  refine rc_ne_decline_or (k := false) hd (typeIs_int s b u) (by decide) F.sub_int_dict F.slot_dict_ne F.slot_int_ne_refl
    (fun Q' hq => wpAny_call_entry F.slot_dict_ne hd F.entry_dict_ne ?_ (F.args_dict_ne_2 _ _))
    (fun _ hq => call_meets F.slot_int_ne_refl (typeIs_int s b u) F.entry_int_ne (F.args_int_ne_2 _ _) (int_ne_dict b u l di es ep sl) ⟨ho, hq⟩)
    (fun _ hq => wpAny_of_eq (rfl : isSame (.ref l) (.int b u) = pure false) hq) (.inr hu) h
  show wpAny _ _ (Builtin.Dict.dictSlotArgs "__ne__" ⟨[.ref l, .int b u], []⟩ >>= _) _ _ s
  refine wpAny_bind ?_
  unfold Builtin.Dict.dictSlotArgs
  refine wpAny_bind (wpAny_notOrdered_dict hd ?_)
  show wpAny _ _ (pure (Value.ref l, Value.int b u)) _ _ s
  refine wpAny_pure ?_
  refine wpAny_bind (wpAny_isInstance (T := "int") (typeIs_int s b u) F.sub_int_dict ?_)
  simp only [Bool.not_false, if_true]
  exact wpAny_bind (wpAny_rule (wpAny_pure ⟨_, rfl, hq⟩))
theorem rcEq_dict_int {Q : Value → Shared → Prop} (b : Int) (u : Tok) (ho : s.heap.get? l = some { cls := .type "dict", dict := di, data := .dict es ep, slots := sl }) (hu : A.units < cLine) (h : Q (.bool false) s) : wpAny (model prog w) A (compareOp .Eq (.ref l) (.int b u)) Q E s := by
  have hd : s.TypeIs (.ref l) "dict" := ⟨_, ho, rfl⟩
  refine rc_eq_decline_or (k := false) hd (typeIs_int s b u) (by decide) F.sub_int_dict F.slot_dict_eq F.slot_int_eq_refl
    (fun Q' hq => wpAny_call_entry F.slot_dict_eq hd F.entry_dict_eq ?_ (F.args_dict_eq_2 _ _))
    (fun _ hq => call_meets F.slot_int_eq_refl (typeIs_int s b u) F.entry_int_eq (F.args_int_eq_2 _ _) (int_eq_dict b u l di es ep sl) ⟨ho, hq⟩)
    (fun _ hq => wpAny_of_eq (rfl : isSame (.ref l) (.int b u) = pure false) hq) (.inr hu) h
  show wpAny _ _ (Builtin.Dict.dictSlotArgs "__eq__" ⟨[.ref l, .int b u], []⟩ >>= _) _ _ s
  refine wpAny_bind ?_
  unfold Builtin.Dict.dictSlotArgs
  refine wpAny_bind (wpAny_notOrdered_dict hd ?_)
  show wpAny _ _ (pure (Value.ref l, Value.int b u)) _ _ s
  refine wpAny_pure ?_
  refine wpAny_bind (wpAny_isInstance (T := "int") (typeIs_int s b u) F.sub_int_dict ?_)
  simp only [Bool.not_false, if_true]
  exact wpAny_bind (wpAny_rule (wpAny_pure ⟨_, rfl, hq⟩))
theorem rcNe_dict_str {Q : Value → Shared → Prop} (b : PySem.Str) (u : Tok) (ho : s.heap.get? l = some { cls := .type "dict", dict := di, data := .dict es ep, slots := sl }) (hu : A.units < cLine) (h : Q (.bool true) s) : wpAny (model prog w) A (compareOp .NotEq (.ref l) (.str b u)) Q E s := by
  have hd : s.TypeIs (.ref l) "dict" := ⟨_, ho, rfl⟩
  refine rc_ne_decline_or (k := false) hd (typeIs_str s b u) (by decide) F.sub_str_dict F.slot_dict_ne F.slot_str_ne_refl
    (fun Q' hq => wpAny_call_entry F.slot_dict_ne hd F.entry_dict_ne ?_ (F.args_dict_ne_2 _ _))
    (fun _ hq => call_meets F.slot_str_ne_refl (typeIs_str s b u) F.entry_str_ne (F.args_str_ne_2 _ _) (str_ne_dict b u l di es ep sl) ⟨ho, hq⟩)
    (fun _ hq => wpAny_of_eq (rfl : isSame (.ref l) (.str b u) = pure false) hq) (.inr hu) h
  show wpAny _ _ (Builtin.Dict.dictSlotArgs "__ne__" ⟨[.ref l, .str b u], []⟩ >>= _) _ _ s
  refine wpAny_bind ?_
  unfold Builtin.Dict.dictSlotArgs
  refine wpAny_bind (wpAny_notOrdered_dict hd ?_)
  show wpAny _ _ (pure (Value.ref l, Value.str b u)) _ _ s
  refine wpAny_pure ?_
  refine wpAny_bind (wpAny_isInstance (T := "str") (typeIs_str s b u) F.sub_str_dict ?_)
  simp only [Bool.not_false, if_true]
  exact wpAny_bind (wpAny_rule (wpAny_pure ⟨_, rfl, hq⟩))
theorem rcEq_dict_str {Q : Value → Shared → Prop} (b : PySem.Str) (u : Tok) (ho : s.heap.get? l = some { cls := .type "dict", dict := di, data := .dict es ep, slots := sl }) (hu : A.units < cLine) (h : Q (.bool false) s) : wpAny (model prog w) A (compareOp .Eq (.ref l) (.str b u)) Q E s := by
  have hd : s.TypeIs (.ref l) "dict" := ⟨_, ho, rfl⟩
  refine rc_eq_decline_or (k := false) hd (typeIs_str s b u) (by decide) F.sub_str_dict F.slot_dict_eq F.slot_str_eq_refl
    (fun Q' hq => wpAny_call_entry F.slot_dict_eq hd F.entry_dict_eq ?_ (F.args_dict_eq_2 _ _))
    (fun _ hq => call_meets F.slot_str_eq_refl (typeIs_str s b u) F.entry_str_eq (F.args_str_eq_2 _ _) (str_eq_dict b u l di es ep sl) ⟨ho, hq⟩)
    (fun _ hq => wpAny_of_eq (rfl : isSame (.ref l) (.str b u) = pure false) hq) (.inr hu) h
  show wpAny _ _ (Builtin.Dict.dictSlotArgs "__eq__" ⟨[.ref l, .str b u], []⟩ >>= _) _ _ s
  refine wpAny_bind ?_
  unfold Builtin.Dict.dictSlotArgs
  refine wpAny_bind (wpAny_notOrdered_dict hd ?_)
  show wpAny _ _ (pure (Value.ref l, Value.str b u)) _ _ s
  refine wpAny_pure ?_
  refine wpAny_bind (wpAny_isInstance (T := "str") (typeIs_str s b u) F.sub_str_dict ?_)
  simp only [Bool.not_false, if_true]
  exact wpAny_bind (wpAny_rule (wpAny_pure ⟨_, rfl, hq⟩))
end
end Z
/-! ### the operations on values -/
namespace Z
open PySem PySem.Spec PyProof.Rows L2
section
variable {M : Ad} {ρ : List Addr} {h : Hh} {H : Hp} {Q : VK}
theorem Up.now {a : A} {v : V} (q : Up M ρ H Q a h) (r : HR M ρ h H) (e : VR M ρ H a v) : Q v H := q ρ H v (List.prefix_refl _) Mo.refl r e
theorem Up.lst {xs : List A} {vs : List V} {p : Addr} (q : new h (.lst xs) (Up M ρ H Q)) (r : HR M ρ h H) (n : H p = none) (e : VRs M ρ H xs vs) : Q (.ref p) (upd H p (.lst vs)) := by
  have m : Mo M.K H (upd H p (.lst vs)) := Mo.new n
  refine q (ρ ++ [p]) _ _ (List.prefix_append _ _) m (r.new n (.lst upd_same (e.mono (List.prefix_append _ _) m))) (.ref ?_)
  rw [← r.len, List.getElem?_append_right (Nat.le_refl _), Nat.sub_self]
  rfl
theorem Up.tup {xs : List A} {vs : List V} {p : Addr} (q : Up M ρ H Q (.tup xs) h) (r : HR M ρ h H) (n : H p = none) (e : VRs M ρ H xs vs) : Q (.ref p) (upd H p (.tup vs)) := by
  have m : Mo M.K H (upd H p (.tup vs)) := Mo.new n
  exact q ρ _ _ (List.prefix_refl _) m (r.other n) (.tup upd_same (e.mono (List.prefix_refl _) m))
theorem Up.put {x : A} {v : V} {n : Nat} {a : Addr} {xs : List A} {vs : List V} (q : Up M ρ H Q x (h.set n (.lst xs))) (r : HR M ρ h H) (e : ρ[n]? = some a) (f : VR M ρ H x v) (l : VRs M ρ H xs vs) : Q v (upd H a (.lst vs)) := by
  have m : Mo M.K H (upd H a (.lst vs)) := r.moAt e
  exact q ρ _ _ (List.prefix_refl _) m (r.put e (.lst upd_same (l.mono (List.prefix_refl _) m))) (f.mono (List.prefix_refl _) m)
theorem HR.lst (r : HR M ρ h H) {n : Nat} {xs : List A} {a : Addr} (e : h[n]? = some (.lst xs)) (s : ρ[n]? = some a) : ∃ vs, H a = some (.lst vs) ∧ VRs M ρ H xs vs := by
  have z := r.ob n a _ s e
  cases z with
  | lst h1 h2 => exact ⟨_, h1, h2⟩
end
theorem op_rep_str {X : Cx} : OpR X (binaryOp .Mult) (fun x y H Q => ∃ (z : PySem.Str) (n : Int), x = .str z ∧ y = .int n ∧ PySem.MulOk z n ∧ Q (.str (Txt.mul z n)) H) := by
  intro pins s σ H x y v u Q I rx ry h
  obtain ⟨z, n, rfl, rfl, hok, q⟩ := h
  obtain ⟨t, rfl⟩ := rx
  obtain ⟨t', rfl⟩ := ry
  exact SB.mul hok fun t2 k => ⟨.str _, H, I.tok _, ⟨_, rfl⟩, q⟩
/-- an operation of the machine, over values of the layer -/
def l2 (M : Ad) (f : A → A → Hh → QV → Prop) : R2 := fun x y H Q => ∃ ρ h a b, HR M ρ h H ∧ VR M ρ H a x ∧ VR M ρ H b y ∧ f a b h (Up M ρ H Q)
def lL (M : Ad) (f : List A → Hh → QV → Prop) : List V → Hp → VK → Prop := fun xs H Q => ∃ ρ h as, HR M ρ h H ∧ VRs M ρ H as xs ∧ f as h (Up M ρ H Q)
def lM (M : Ad) (f : A → List A → Hh → QV → Prop) : V → List V → Hp → VK → Prop := fun x xs H Q => ∃ ρ h a as, HR M ρ h H ∧ VR M ρ H a x ∧ VRs M ρ H as xs ∧ f a as h (Up M ρ H Q)
section
variable {X : Cx} {M : Ad}
theorem op_bin (hK : M.K = X.K) (op : Operator) : OpR X (binaryOp op) (l2 M (binW op)) := by
  intro pins s σ H x y v u Q I rx ry z
  obtain ⟨ρ, h, a, b, hr, va, vb, w⟩ := z
  unfold binW at w
  split at w
  · cases va; cases vb
    exact op_add pins s σ H _ _ v u Q I rx ry ⟨_, _, rfl, rfl, w.now hr (.int _)⟩
  · cases va; cases vb
    exact op_add_str pins s σ H _ _ v u Q I rx ry ⟨_, _, rfl, rfl, w.1, w.2.now hr (.str _)⟩
  · obtain ⟨xs, ys, h1, h2, h3, h4⟩ := w
    cases va with
    | ref e1 =>
      cases vb with
      | ref e2 =>
        obtain ⟨vs, g1, g2⟩ := hr.lst h1 e1
        obtain ⟨ws, g3, g4⟩ := hr.lst h2 e2
        exact op_cat pins s σ H _ _ v u Q I rx ry ⟨_, _, _, _, rfl, rfl, g1, g3, by rw [← g2.length, ← g4.length]; exact h3, fun p np => Up.lst h4 hr np (g2.append g4)⟩
  · cases va with
    | tup e1 r1 =>
      cases vb with
      | tup e2 r2 =>
        refine op_catA pins s σ H _ _ v u Q I rx ry ⟨_, _, _, _, rfl, rfl, SqT.of e1, SqT.of e2, ?_, fun z => ?_, fun _ z => ?_, fun _ _ p np => Up.tup w.2 hr np (r1.append r2)⟩
        · rw [← r1.length, ← r2.length]
          exact w.1
        · subst z
          cases r1
          exact w.2.now hr (.tup e2 r2)
        · subst z
          cases r2
          refine w.2.now hr ?_
          rw [List.append_nil]
          exact .tup e1 r1
  · obtain ⟨n1, n2, w1, w2⟩ := w
    cases va with
    | kt e1 r1 =>
      cases vb with
      | tup e2 r2 =>
        refine op_catA pins s σ H _ _ v u Q I rx ry ⟨_, _, _, _, rfl, rfl, hK ▸ e1.sq, SqT.of e2, ?_, fun z => ?_, fun _ z => ?_, fun _ _ p np => Up.tup w2 hr np (r1.append r2)⟩
        · rw [← r1.length, ← r2.length]
          exact w1
        · subst z
          cases r1
          exact absurd rfl n1
        · subst z
          cases r2
          exact absurd rfl n2
  · obtain ⟨n1, n2, w1, w2⟩ := w
    cases va with
    | tup e1 r1 =>
      cases vb with
      | kt e2 r2 =>
        refine op_catA pins s σ H _ _ v u Q I rx ry ⟨_, _, _, _, rfl, rfl, SqT.of e1, hK ▸ e2.sq, ?_, fun z => ?_, fun _ z => ?_, fun _ _ p np => Up.tup w2 hr np (r1.append r2)⟩
        · rw [← r1.length, ← r2.length]
          exact w1
        · subst z
          cases r1
          exact absurd rfl n1
        · subst z
          cases r2
          exact absurd rfl n2
  · cases va; cases vb
    exact op_sub pins s σ H _ _ v u Q I rx ry ⟨_, _, rfl, rfl, w.now hr (.int _)⟩
  · cases va; cases vb
    rcases w.1 with c | c
    · exact op_mul pins s σ H _ _ v u Q I rx ry ⟨_, _, rfl, rfl, c, w.2.now hr (.int _)⟩
    · exact op_mulW pins s σ H _ _ v u Q I rx ry ⟨_, _, rfl, rfl, c, w.2.now hr (.int _)⟩
  · obtain ⟨xs, h1, h2, h3, h4, h5⟩ := w
    cases va with
    | ref e1 =>
      cases vb
      obtain ⟨vs, g1, g2⟩ := hr.lst h1 e1
      exact op_rep pins s σ H _ _ v u Q I rx ry ⟨_, _, _, rfl, rfl, g1, h2, h3, by rw [← g2.length]; exact h4, fun p np => Up.lst h5 hr np (g2.flatten _)⟩
  · cases va with
    | tup e1 r1 =>
      cases vb
      refine op_repT pins s σ H _ _ v u Q I rx ry ⟨_, _, _, rfl, rfl, SqT.of e1, ?_, w.2.1, w.2.2.1, by rw [← r1.length]; exact w.2.2.2.1, fun p np => Up.tup w.2.2.2.2 hr np (r1.flatten _)⟩
      intro z
      subst z
      exact w.1 (List.length_eq_zero_iff.mp r1.length)
  · cases va; cases vb
    exact op_rep_str pins s σ H _ _ v u Q I rx ry ⟨_, _, rfl, rfl, w.1, w.2.now hr (.str _)⟩
  · cases va; cases vb
    exact op_fdivW pins s σ H _ _ v u Q I rx ry ⟨_, _, rfl, rfl, w.1, w.2.now hr (.int _)⟩
  · cases va; cases vb
    exact op_mod pins s σ H _ _ v u Q I rx ry ⟨_, _, rfl, rfl, w.1, w.2.now hr (.int _)⟩
  · cases va; cases vb
    exact op_pow pins s σ H _ _ v u Q I rx ry ⟨_, _, rfl, rfl, w.1, w.2.now hr (.int _)⟩
  · cases va; cases vb
    exact op_shl pins s σ H _ _ v u Q I rx ry ⟨_, _, rfl, rfl, w.1, w.2.now hr (.int _)⟩
  · cases va; cases vb
    exact op_shr pins s σ H _ _ v u Q I rx ry ⟨_, _, rfl, rfl, w.1, w.2.now hr (.int _)⟩
  · cases va; cases vb
    exact op_and pins s σ H _ _ v u Q I rx ry ⟨_, _, rfl, rfl, w.now hr (.int _)⟩
  · cases va; cases vb
    exact op_or pins s σ H _ _ v u Q I rx ry ⟨_, _, rfl, rfl, w.now hr (.int _)⟩
  · cases va; cases vb
    exact op_xor pins s σ H _ _ v u Q I rx ry ⟨_, _, rfl, rfl, w.now hr (.int _)⟩
  · exact w.elim
theorem sc_scal {x y : V} {a b : A} {ρ : List Addr} {H : Hp} {k : Bool} (va : VR M ρ H a x) (vb : VR M ρ H b y) (e : sc a b = some k) : (scal x y = true ∧ decide (x = y) = k) ∨ ∃ d e, Dp M.K H x d ∧ Dp M.K H y e ∧ SeqAt.shaped d = true ∧ SeqAt.shaped e = true ∧ PyData.eqv d e = k := by
  cases va <;> cases vb <;> first
    | (cases e; done)
    | (refine .inl ⟨rfl, ?_⟩
       simp only [sc, Option.some.injEq] at e
       subst e
       simp
       done)
    | (refine .inl ⟨rfl, ?_⟩
       simp only [sc, Option.some.injEq] at e
       subst e
       rename_i b1 b2
       cases b1 <;> cases b2 <;> rfl)
    | (simp only [sc, Option.some.injEq] at e
       subst e
       first
         | (refine .inr ⟨_, _, .bl _, .int _, rfl, rfl, ?_⟩
            exact Bool.beq_eq_decide_eq _ _)
         | (refine .inr ⟨_, _, .int _, .bl _, rfl, rfl, ?_⟩
            exact Bool.beq_eq_decide_eq _ _))
theorem op_eqW (hK : M.K = X.K) (hu : X.A.units + 65 < cLine) : OpR X (compareOp .Eq) (l2 M fun a b h Q => eqW a b h fun c => Q (.bl c) h) := by
  intro pins s σ H x y v u Q I rx ry z
  obtain ⟨ρ, h, a, b, hr, va, vb, w⟩ := z
  unfold eqW at w
  cases z : sc a b with
  | some k =>
    rw [z] at w
    rcases sc_scal va vb z with ⟨h1, h2⟩ | ⟨d, e, h1, h2, h3, h4, h5⟩
    · exact op_eq pins s σ H x y v u Q I rx ry ⟨h1, by rw [h2]; exact w.now hr (.bl _)⟩
    · exact op_eqD (by omega) pins s σ H x y v u Q I rx ry ⟨d, e, hK ▸ h1, hK ▸ h2, h3, h4, by rw [h5]; exact w.now hr (.bl _)⟩
  | none =>
    rw [z] at w
    rcases w with ⟨⟨n, i, kvs, rfl, rfl, hn⟩ | ⟨n, i, kvs, rfl, rfl, hn⟩ | ⟨n, m, xs, ys, rfl, rfl, hn, hm, hl⟩, w⟩ | ⟨d, e, h1, h2, h3, h4, h5⟩
    · cases va with
      | ref e0 =>
        cases vb
        cases rx
        obtain ⟨_, rfl⟩ := ry
        have zo := hr.ob _ _ _ e0 hn
        cases zo with
        | @dK _ ws g1 g2 =>
          obtain ⟨_, hsm, us, kv, o, es, ep, ho, ex, hd, _⟩ := I.hok _ _ g1
          obtain ⟨cls, di, data, sl⟩ := o
          obtain rfl : cls = .type "dict" := ex.1
          obtain rfl : data = .dict es ep := hd
          exact rcEq_dict_int _ _ ho (by omega) ⟨.bl _, H, I, rfl, w.now hr (.bl _)⟩
    · cases va with
      | ref e0 =>
        cases vb
        cases rx
        obtain ⟨_, rfl⟩ := ry
        have zo := hr.ob _ _ _ e0 hn
        cases zo with
        | @dK _ ws g1 g2 =>
          obtain ⟨_, hsm, us, kv, o, es, ep, ho, ex, hd, _⟩ := I.hok _ _ g1
          obtain ⟨cls, di, data, sl⟩ := o
          obtain rfl : cls = .type "dict" := ex.1
          obtain rfl : data = .dict es ep := hd
          exact rcEq_dict_str _ _ ho (by omega) ⟨.bl _, H, I, rfl, w.now hr (.bl _)⟩
    · cases va with
      | ref e0 =>
        cases vb with
        | ref e1 =>
          cases rx
          cases ry
          have zo := hr.ob _ _ _ e0 hn
          have zp := hr.ob _ _ _ e1 hm
          cases zo with
          | lst g1 g2 =>
            cases zp with
            | lst g3 g4 =>
              obtain ⟨its, r1, pl1, _⟩ := I.list (SqL.of g1)
              obtain ⟨its2, r2, pl2, _⟩ := I.list (SqL.of g3)
              refine SeqAt.RcAt.lists_lengths pl1.isList pl2.isList ?_ (by omega) _ _ _ _ ⟨.bl _, H, I, rfl, w.now hr (.bl _)⟩
              rw [List.size_toArray, List.size_toArray, ← r1.length, ← r2.length, ← g2.length, ← g4.length]
              simpa using hl
    exact op_eqD (by omega) pins s σ H x y v u Q I rx ry ⟨d, e, hK ▸ h1.dp hr (SeqAt.canLay_of_shaped h3) va, hK ▸ h2.dp hr (SeqAt.canLay_of_shaped h4) vb, h3, h4, h5.now hr (.bl _)⟩
theorem op_neW (hK : M.K = X.K) (hu : X.A.units + 65 < cLine) : OpR X (compareOp .NotEq) (l2 M fun a b h Q => eqW a b h fun c => Q (.bl (!c)) h) := by
  intro pins s σ H x y v u Q I rx ry z
  obtain ⟨ρ, h, a, b, hr, va, vb, w⟩ := z
  unfold eqW at w
  cases z : sc a b with
  | some k =>
    rw [z] at w
    rcases sc_scal va vb z with ⟨h1, h2⟩ | ⟨d, e, h1, h2, h3, h4, h5⟩
    · exact op_ne pins s σ H x y v u Q I rx ry ⟨h1, by rw [h2]; exact w.now hr (.bl _)⟩
    · exact op_neD (by omega) pins s σ H x y v u Q I rx ry ⟨d, e, hK ▸ h1, hK ▸ h2, h3, h4, by rw [h5]; exact w.now hr (.bl _)⟩
  | none =>
    rw [z] at w
    rcases w with ⟨⟨n, i, kvs, rfl, rfl, hn⟩ | ⟨n, i, kvs, rfl, rfl, hn⟩ | ⟨n, m, xs, ys, rfl, rfl, hn, hm, hl⟩, w⟩ | ⟨d, e, h1, h2, h3, h4, h5⟩
    · cases va with
      | ref e0 =>
        cases vb
        cases rx
        obtain ⟨_, rfl⟩ := ry
        have zo := hr.ob _ _ _ e0 hn
        cases zo with
        | @dK _ ws g1 g2 =>
          obtain ⟨_, hsm, us, kv, o, es, ep, ho, ex, hd, _⟩ := I.hok _ _ g1
          obtain ⟨cls, di, data, sl⟩ := o
          obtain rfl : cls = .type "dict" := ex.1
          obtain rfl : data = .dict es ep := hd
          exact rcNe_dict_int _ _ ho (by omega) ⟨.bl _, H, I, rfl, w.now hr (.bl _)⟩
    · cases va with
      | ref e0 =>
        cases vb
        cases rx
        obtain ⟨_, rfl⟩ := ry
        have zo := hr.ob _ _ _ e0 hn
        cases zo with
        | @dK _ ws g1 g2 =>
          obtain ⟨_, hsm, us, kv, o, es, ep, ho, ex, hd, _⟩ := I.hok _ _ g1
          obtain ⟨cls, di, data, sl⟩ := o
          obtain rfl : cls = .type "dict" := ex.1
          obtain rfl : data = .dict es ep := hd
          exact rcNe_dict_str _ _ ho (by omega) ⟨.bl _, H, I, rfl, w.now hr (.bl _)⟩
    · cases va with
      | ref e0 =>
        cases vb with
        | ref e1 =>
          cases rx
          cases ry
          have zo := hr.ob _ _ _ e0 hn
          have zp := hr.ob _ _ _ e1 hm
          cases zo with
          | lst g1 g2 =>
            cases zp with
            | lst g3 g4 =>
              obtain ⟨its, r1, pl1, _⟩ := I.list (SqL.of g1)
              obtain ⟨its2, r2, pl2, _⟩ := I.list (SqL.of g3)
              refine SeqAt.RcNeAt.lists_lengths pl1.isList pl2.isList ?_ (by omega) _ _ _ _ ⟨.bl _, H, I, rfl, w.now hr (.bl _)⟩
              rw [List.size_toArray, List.size_toArray, ← r1.length, ← r2.length, ← g2.length, ← g4.length]
              simpa using hl
    exact op_neD (by omega) pins s σ H x y v u Q I rx ry ⟨d, e, hK ▸ h1.dp hr (SeqAt.canLay_of_shaped h3) va, hK ▸ h2.dp hr (SeqAt.canLay_of_shaped h4) vb, h3, h4, h5.now hr (.bl _)⟩
theorem key_rel {ρ : List Addr} {H : Hp} {a : A} {x : V} {k : Key} (va : VR M ρ H a x) (e : keyOf a = some k) : x = kV k := by
  cases va <;> first
    | (cases e; done)
    | (simp only [keyOf, Option.some.injEq] at e
       subst e
       rfl)
theorem keys_rel {ρ : List Addr} {H : Hp} : ∀ {xs : List A} {vs : List V} {k : List Key}, VRs M ρ H xs vs → xs.mapM keyOf = some k → vs = k.map kV
  | [], _, k, r, e => by
    cases r
    simp only [List.mapM_nil, Option.pure_def, Option.some.injEq] at e
    subst e
    rfl
  | x :: xs, _, k, r, e => by
    cases r with
    | cons h r =>
      rw [List.mapM_cons] at e
      cases q : keyOf x with
      | none => rw [q] at e; cases e
      | some y =>
        rw [q] at e
        cases q2 : xs.mapM keyOf with
        | none => rw [q2] at e; cases e
        | some ys =>
          rw [q2] at e
          simp only [Option.pure_def, Option.bind_eq_bind, Option.bind_some, Option.some.injEq] at e
          subst e
          rw [key_rel h q, keys_rel r q2]
          rfl
theorem dget_k {ρ : List Addr} {H : Hp} {a : A} {x : V} {k : Key} {d : Addr} {ws : List (Key × V)} (e : H d = some (.dK ws)) (va : VR M ρ H a x) (hk : keyOf a = some k) : DGet H d x (valV ws k) := by
  rw [key_rel va hk]
  exact DGet.k e
theorem dget_t {ρ : List Addr} {H : Hp} {a : A} {x : V} {k : List Key} {d : Addr} {ws : List (List Key × V)} (e : H d = some (.dT ws)) (va : VR M ρ H a x) (hk : tkOf a = some k) : DGet H d x (valV ws k) := by
  cases va with
  | tup h r => exact DGet.t e (by rw [← keys_rel r hk]; exact h)
  | _ => cases hk
theorem getA_rel {κ : Type} [DecidableEq κ] {ρ : List Addr} {H : Hp} {kvs : List (κ × A)} {ws : List (κ × V)} (r : KR M ρ H kvs ws) (k : κ) : OV M ρ H (getA kvs k) (valV ws k) := by
  induction r with
  | nil => exact .none
  | @cons p q kvs ws h _ ih =>
    obtain ⟨k1, x⟩ := p
    obtain ⟨k2, v⟩ := q
    obtain ⟨h1, h2⟩ := h
    simp only at h1 h2
    subst h1
    unfold getA
    split
    · rename_i e
      subst e
      have : valV ((k2, v) :: ws) k2 = some v := by simp [valV]
      rw [this]
      exact .some h2
    · rename_i e
      have : valV ((k2, v) :: ws) k = valV ws k := by simp [valV, e]
      rw [this]
      exact ih
theorem getA_val {κ : Type} [DecidableEq κ] {ρ : List Addr} {H : Hp} {kvs : List (κ × A)} {ws : List (κ × V)} (r : KR M ρ H kvs ws) {k : κ} : (getA kvs k).isSome = (valV ws k).isSome := by
  induction r with
  | nil => rfl
  | @cons p q kvs ws h _ ih =>
    obtain ⟨k1, x⟩ := p
    obtain ⟨k2, v⟩ := q
    obtain ⟨h1, h2⟩ := h
    simp only at h1 h2
    subst h1
    unfold getA
    split
    · rename_i e
      subst e
      simp [valV]
    · rename_i e
      have : valV ((k2, v) :: ws) k = valV ws k := by simp [valV, e]
      rw [this]
      exact ih
/-- x in a tuple -/
theorem op_inT (hu : X.A.units + 65 < cLine) : OpR X (compareOp .In) (fun x y H Q => ∃ d ds, Dp X.K H x d ∧ Dp X.K H y (.tuple ds) ∧ SeqAt.shaped d = true ∧ SeqAt.shaped (.tuple ds) = true ∧ Q (.bl (ds.any fun z => PyData.eqv z d)) H) := by
  intro pins s σ H x y v u Q I rx ry z
  obtain ⟨d, ds, hd, he, sd, se, q⟩ := z
  obtain ⟨as, r1⟩ := Dp.reads I d x v hd rx
  obtain ⟨bs, r2⟩ := Dp.reads I (.tuple ds) y u he ry
  exact SeqAt.in_tuple_reads r2 r1 (SeqAt.canLay_of_shaped se) (SeqAt.canLay_of_shaped sd) (room_in_shaped sd hu) ⟨.bl _, H, I, rfl, q⟩
theorem op_notInT (hu : X.A.units + 65 < cLine) : OpR X (compareOp .NotIn) (fun x y H Q => ∃ d ds, Dp X.K H x d ∧ Dp X.K H y (.tuple ds) ∧ SeqAt.shaped d = true ∧ SeqAt.shaped (.tuple ds) = true ∧ Q (.bl (!ds.any fun z => PyData.eqv z d)) H) := by
  intro pins s σ H x y v u Q I rx ry z
  obtain ⟨d, ds, hd, he, sd, se, q⟩ := z
  obtain ⟨as, r1⟩ := Dp.reads I d x v hd rx
  obtain ⟨bs, r2⟩ := Dp.reads I (.tuple ds) y u he ry
  exact SeqAt.notIn_tuple_reads r2 r1 (SeqAt.canLay_of_shaped se) (SeqAt.canLay_of_shaped sd) (room_in_shaped sd hu) ⟨.bl _, H, I, rfl, q⟩
theorem op_inW (hK : M.K = X.K) (hu : X.A.units + 65 < cLine) (neg : Bool) : OpR X (compareOp (if neg then .NotIn else .In)) (l2 M fun a b h Q => inW a b h fun c => Q (.bl (if neg then !c else c)) h) := by
  intro pins s σ H x y v u Q I rx ry z
  obtain ⟨ρ, h, a, b, hr, va, vb, w⟩ := z
  have sq : ∀ {ys : List A} {d : PyData} {ds : List PyData} {vs : List V}, Da h a d → DaL h ys ds → SeqAt.shaped d = true → PyData.canLayAll0 ds = true → VRs M ρ H ys vs → Dp X.K H x d ∧ DpAll X.K H vs ds := fun h1 h2 c1 c2 h3 => ⟨hK ▸ h1.dp hr (SeqAt.canLay_of_shaped c1) va, hK ▸ h2.dp hr c2 h3⟩
  unfold inW at w
  cases vb with
  | str z =>
    obtain ⟨c, rfl, q⟩ := w
    cases va
    cases neg with
    | false => exact op_in_sign pins s σ H _ _ v u Q I rx ry ⟨c, z, rfl, rfl, q.now hr (.bl _)⟩
    | true => exact op_notIn_sign pins s σ H _ _ v u Q I rx ry ⟨c, z, rfl, rfl, q.now hr (.bl _)⟩
  | tup e r =>
    obtain ⟨d, ds, h1, h2, h3, h4, q⟩ := w
    obtain ⟨g1, g2⟩ := sq h1 h2 h3 (SeqAt.canLay_of_shaped h4) r
    cases neg with
    | false => exact op_inT hu pins s σ H _ _ v u Q I rx ry ⟨d, ds, g1, .tup (SqT.of e) g2, h3, h4, q.now hr (.bl _)⟩
    | true => exact op_notInT hu pins s σ H _ _ v u Q I rx ry ⟨d, ds, g1, .tup (SqT.of e) g2, h3, h4, q.now hr (.bl _)⟩
  | kt e r =>
    obtain ⟨d, ds, h1, h2, h3, h4, q⟩ := w
    obtain ⟨g1, g2⟩ := sq h1 h2 h3 (SeqAt.canLay_of_shaped h4) r
    cases neg with
    | false => exact op_inT hu pins s σ H _ _ v u Q I rx ry ⟨d, ds, g1, .tup (hK ▸ e.sq) g2, h3, h4, q.now hr (.bl _)⟩
    | true => exact op_notInT hu pins s σ H _ _ v u Q I rx ry ⟨d, ds, g1, .tup (hK ▸ e.sq) g2, h3, h4, q.now hr (.bl _)⟩
  | fro e r =>
    obtain ⟨d, ds, h1, h2, h3, h4, q⟩ := w
    obtain ⟨g1, g2⟩ := sq h1 h2 h3 (SeqAt.canLay_of_shaped h4) r
    cases neg with
    | false => exact op_inD hu pins s σ H _ _ v u Q I rx ry ⟨d, ds, g1, .lst (hK ▸ e.sq) g2, h3, h4, q.now hr (.bl _)⟩
    | true => exact op_notInD hu pins s σ H _ _ v u Q I rx ry ⟨d, ds, g1, .lst (hK ▸ e.sq) g2, h3, h4, q.now hr (.bl _)⟩
  | ref e =>
    obtain ⟨o, ho, ro⟩ := hr.is e
    simp only [ho] at w
    cases ro with
    | lst e r =>
      obtain ⟨d, ds, h1, h2, h3, h4, q⟩ := w
      obtain ⟨g1, g2⟩ := sq h1 h2 h3 (SeqAt.canLay_of_shaped h4) r
      cases neg with
      | false => exact op_inD hu pins s σ H _ _ v u Q I rx ry ⟨d, ds, g1, .lst (SqL.of e) g2, h3, h4, q.now hr (.bl _)⟩
      | true => exact op_notInD hu pins s σ H _ _ v u Q I rx ry ⟨d, ds, g1, .lst (SqL.of e) g2, h3, h4, q.now hr (.bl _)⟩
    | dK e r =>
      obtain ⟨k, hk, q⟩ := w
      have g : DGet H _ x _ := dget_k e va hk
      rw [getA_val r] at q
      cases ry
      cases neg with
      | false => exact d_in (by omega) I g rx fun s3 I3 => ⟨.bl _, H, I3, rfl, q.now hr (.bl _)⟩
      | true => exact d_notIn (by omega) I g rx fun s3 I3 => ⟨.bl _, H, I3, rfl, q.now hr (.bl _)⟩
    | dT e r =>
      obtain ⟨k, hk, q⟩ := w
      have g : DGet H _ x _ := dget_t e va hk
      rw [getA_val r] at q
      cases ry
      cases neg with
      | false => exact d_in (by omega) I g rx fun s3 I3 => ⟨.bl _, H, I3, rfl, q.now hr (.bl _)⟩
      | true => exact d_notIn (by omega) I g rx fun s3 I3 => ⟨.bl _, H, I3, rfl, q.now hr (.bl _)⟩
    | ins b c e r => exact w.elim
  | _ => exact w.elim
theorem op_isW (neg : Bool) : OpR X (compareOp (if neg then .IsNot else .Is)) (l2 M fun a b h Q => isW a b fun c => Q (.bl (if neg then !c else c)) h) := by
  intro pins s σ H x y v u Q I rx ry z
  obtain ⟨ρ, h, a, b, hr, va, vb, w⟩ := z
  unfold isW at w
  cases vb with
  | non =>
    have e : a.isN = decide (x = V.non) := by
      cases va <;> first | rfl | simp
    have w : Up M ρ H Q (.bl (if neg then !decide (x = V.non) else decide (x = V.non))) h := by
      rw [← e]
      exact w
    cases neg with
    | false => exact op_isN pins s σ H _ _ v u Q I rx ry ⟨rfl, w.now hr (.bl _)⟩
    | true => exact op_notN pins s σ H _ _ v u Q I rx ry ⟨rfl, w.now hr (.bl _)⟩
  | bl b =>
    cases va with
    | bl c =>
      cases neg with
      | false => exact op_isBl pins s σ H _ _ v u Q I rx ry ⟨c, b, rfl, rfl, w.now hr (.bl _)⟩
      | true => exact op_notBl pins s σ H _ _ v u Q I rx ry ⟨c, b, rfl, rfl, w.now hr (.bl _)⟩
    | _ => exact w.elim
  | _ => exact w.elim
theorem op_cmp (hK : M.K = X.K) (hu : X.A.units + 65 < cLine) (op : CmpOp) : OpR X (compareOp op) (l2 M fun a b h Q => cmpW op a b h fun c => Q (.bl c) h) := by
  cases op with
  | Eq => exact op_eqW hK hu
  | NotEq => exact op_neW hK hu
  | In => exact op_inW hK hu false
  | NotIn => exact op_inW hK hu true
  | Is => exact op_isW false
  | IsNot => exact op_isW true
  | Lt =>
    intro pins s σ H x y v u Q I rx ry z
    obtain ⟨ρ, h, a, b, hr, va, vb, w⟩ := z
    cases va <;> cases vb <;> first
      | exact w.elim
      | exact op_lt pins s σ H _ _ v u Q I rx ry ⟨_, _, rfl, rfl, Up.now w hr (.bl _)⟩
      | exact op_lt_str pins s σ H _ _ v u Q I rx ry ⟨_, _, rfl, rfl, Up.now w hr (.bl _)⟩
  | LtE =>
    intro pins s σ H x y v u Q I rx ry z
    obtain ⟨ρ, h, a, b, hr, va, vb, w⟩ := z
    cases va <;> cases vb <;> first
      | exact w.elim
      | exact op_le pins s σ H _ _ v u Q I rx ry ⟨_, _, rfl, rfl, Up.now w hr (.bl _)⟩
  | Gt =>
    intro pins s σ H x y v u Q I rx ry z
    obtain ⟨ρ, h, a, b, hr, va, vb, w⟩ := z
    cases va <;> cases vb <;> first
      | exact w.elim
      | exact op_gt pins s σ H _ _ v u Q I rx ry ⟨_, _, rfl, rfl, Up.now w hr (.bl _)⟩
  | GtE =>
    intro pins s σ H x y v u Q I rx ry z
    obtain ⟨ρ, h, a, b, hr, va, vb, w⟩ := z
    cases va <;> cases vb <;> first
      | exact w.elim
      | exact op_ge pins s σ H _ _ v u Q I rx ry ⟨_, _, rfl, rfl, Up.now w hr (.bl _)⟩
theorem ix_any (hK : M.K = X.K) : IxR X (l2 M idxW) := by
  intro va' sl pins s σ H x y v u Q I rx ry z hs
  obtain ⟨ρ, h, a, b, hr, va, vb, w⟩ := z
  have at_ : ∀ {xs : List A} {vs : List V} {i : Int} {x : A}, VRs M ρ H xs vs → atI xs i = some x → ∃ y, atI vs i = some y ∧ VR M ρ H x y := by
    intro xs vs i x r e
    unfold atI at e ⊢
    rw [← r.length]
    cases q : ixN xs.length i with
    | none => rw [q] at e; cases e
    | some j =>
      rw [q] at e
      exact r.get e
  refine ix_seq va' sl pins s σ H x y v u Q I rx ry ?_ hs
  unfold idxW at w
  split at w
  · cases va with
    | tup e r =>
      cases vb
      obtain ⟨x, e1, q⟩ := w
      obtain ⟨y, e2, q2⟩ := at_ r e1
      exact .inr (.inl ⟨_, _, _, _, rfl, rfl, SqT.of e, e2, q.now hr q2⟩)
  · cases va with
    | fro e r =>
      cases vb
      obtain ⟨x, e1, q⟩ := w
      obtain ⟨y, e2, q2⟩ := at_ r e1
      exact .inl ⟨_, _, _, _, rfl, rfl, hK ▸ e.sq, e2, q.now hr q2⟩
  · cases va with
    | kt e r =>
      cases vb
      obtain ⟨x, e1, q⟩ := w
      obtain ⟨y, e2, q2⟩ := at_ r e1
      exact .inr (.inl ⟨_, _, _, _, rfl, rfl, hK ▸ e.sq, e2, q.now hr q2⟩)
  · cases va
    cases vb
    obtain ⟨h1, c, h2, q⟩ := w
    exact .inr (.inr ⟨_, _, _, rfl, rfl, h1, h2, q.now hr (.str _)⟩)
  · cases va with
    | ref e =>
      obtain ⟨o, ho, ro⟩ := hr.is e
      rw [ho] at w
      cases ro with
      | lst g1 g2 =>
        obtain ⟨i, x, rfl, e2, q⟩ := w
        cases vb
        obtain ⟨y, e3, q2⟩ := at_ g2 e2
        exact .inl ⟨_, _, _, _, rfl, rfl, SqL.of g1, e3, q.now hr q2⟩
      | dK _ _ => exact w.elim
      | dT _ _ => exact w.elim
      | ins _ _ _ _ => exact w.elim
  · exact w.elim
theorem cut_rel {ρ : List Addr} {H : Hp} {xs : List A} {vs : List V} (r : VRs M ρ H xs vs) (lo hi : Option Int) : VRs M ρ H (cutA xs lo hi) (cutV vs lo hi) := by
  unfold cutA cutV
  rw [r.length]
  exact (r.drop _).take _
theorem sl_any (hK : M.K = X.K) : SlR X (fun x lo hi H Q => ∃ ρ h a, HR M ρ h H ∧ VR M ρ H a x ∧ slcW a lo hi h (Up M ρ H Q)) := by
  intro pins s σ H x v vl vu lo hi sl Q I rx hs pl pu z
  obtain ⟨ρ, h, a, hr, va, w⟩ := z
  unfold slcW at w
  split at w
  · cases va with
    | tup e r =>
      refine sl_tupA pins s σ H _ v vl vu lo hi sl Q I rx hs pl pu ⟨_, _, rfl, SqT.of e, fun z => w.now hr ?_, fun _ p np => Up.tup w hr np (cut_rel r lo hi)⟩
      have c := cut_rel r lo hi
      unfold cutV at c
      rw [z.1, z.2, List.drop_zero, Nat.sub_zero, List.take_length] at c
      exact .tup e c
  · cases va with
    | kt e r =>
      refine sl_tupA pins s σ H _ v vl vu lo hi sl Q I rx hs pl pu ⟨_, _, rfl, hK ▸ e.sq, fun z => ?_, fun _ p np => Up.tup w.2 hr np (cut_rel r lo hi)⟩
      rw [← r.length] at z
      exact absurd z w.1
  · cases va with
    | ref e =>
      obtain ⟨xs, h1, h2⟩ := w
      obtain ⟨vs, g1, g2⟩ := hr.lst h1 e
      exact sl_list pins s σ H _ v vl vu lo hi sl Q I rx hs pl pu ⟨_, _, rfl, SqL.of g1, fun p np => Up.lst h2 hr np (cut_rel g2 lo hi)⟩
  · cases va with
    | fro e r => exact sl_list pins s σ H _ v vl vu lo hi sl Q I rx hs pl pu ⟨_, _, rfl, hK ▸ e.sq, fun p np => Up.lst w hr np (cut_rel r lo hi)⟩
  · cases va
    exact sl_str pins s σ H _ v vl vu lo hi sl Q I rx hs pl pu ⟨_, rfl, w.1, w.2.now hr (.str _)⟩
  · exact w.elim
end
end Z

/-! ### built-in functions and methods -/
namespace Z
open PySem PySem.Spec PyProof.Rows L2
/-! data on the heap, dicts among them -/
theorem pairs_reads {P : Program} {w : World} {h : Heap} : ∀ {es : List DictEntry} {kvs : List (Key × Value)}, Pairs (mixKind P w) es kvs → ReadsAll h (es.map (·.key)) (kvs.map fun p => keyD p.1) [] ∧ es.map (·.val) = kvs.map (·.2)
  | _, _, .nil => ⟨.nil, rfl⟩
  | _, _, Pairs.cons (e := e) (kv := kv) (es := es) (kvs := kvs) h1 h2 r => by
    obtain ⟨q1, q2⟩ := pairs_reads (h := h) r
    refine ⟨?_, by rw [List.map_cons, List.map_cons, h2, q2]⟩
    obtain ⟨k, v⟩ := kv
    rcases keyIs_shape (k := k) (v := e.key) h1 with ⟨i, t, rfl, e2⟩ | ⟨z, t, rfl, e2⟩
    · rw [List.map_cons, List.map_cons, e2]
      exact ReadsAll.cons (as := []) (.int i t) q1
    · rw [List.map_cons, List.map_cons, e2]
      exact ReadsAll.cons (as := []) (.str z t) q1
theorem kv_vals {κ : Type} : ∀ {ws : List (κ × V)} {vs : List (κ × Value)}, KV ws vs → Vals (ws.map (·.2)) (vs.map (·.2)) ∧ ws.map (·.1) = vs.map (·.1)
  | _, _, .nil => ⟨.nil, rfl⟩
  | _, _, .cons h r => by
    obtain ⟨q1, q2⟩ := kv_vals r
    exact ⟨.cons h.2 q1, by rw [List.map_cons, List.map_cons, h.1, q2]⟩
theorem kr_vals {M : Ad} {ρ : List Addr} {H : Hp} {κ : Type} : ∀ {ws : List (κ × A)} {vs : List (κ × V)}, KR M ρ H ws vs → VRs M ρ H (ws.map (·.2)) (vs.map (·.2)) ∧ ws.map (·.1) = vs.map (·.1)
  | _, _, .nil => ⟨.nil, rfl⟩
  | _, _, .cons h r => by
    obtain ⟨q1, q2⟩ := kr_vals r
    exact ⟨.cons h.2 q1, by rw [List.map_cons, List.map_cons, h.1, q2]⟩
theorem k_free {X : Cx} {pins : List (Addr × Obj)} {σ : L2.St} {H : Hp} {s : Shared} (I : Inv X pins σ H s) {a : Addr} {o : Obj} (e : X.K.lookup a = some o) : H a = none := by
  have b := I.ok.mod.kin a o e
  obtain ⟨b1, b2⟩ := I.ok.bs a o b
  exact I.base.free a o b1 b2 (I.ok.noex a o b)
section
variable {X : Cx} {M : Ad} {pins : List (Addr × Obj)} {σ : L2.St} {H : Hp} {s : Shared} {ρ : List Addr} {h : Hh}
theorem not_one (hr : HR M ρ h H) {a : Addr} (n : ∀ o, H a ≠ some (.frz o (.own 0))) : sysModules ≠ a := by
  intro e
  obtain ⟨o, z⟩ := hr.one
  rw [e] at z
  exact n o z
theorem DaL.len : ∀ {a : List A} {d : List PyData}, DaL h a d → a.length = d.length
  | _, _, .nil => rfl
  | _, _, .cons _ r => congrArg Nat.succ r.len
mutual
theorem Da.rd (hK : M.K = X.K) (I : Inv X pins σ H s) (hr : HR M ρ h H) : ∀ {a : A} {d : PyData}, Da h a d → ∀ {v : V} {u : Value}, VR M ρ H a v → RelV v u → ∃ as, Reads s.heap u d as ∧ sysModules ∉ as
  | _, _, .non, _, _, .non, r => by
    cases r
    exact ⟨[], .none, List.not_mem_nil⟩
  | _, _, .bl b, _, _, .bl _, r => by
    cases r
    exact ⟨[], .bool b, List.not_mem_nil⟩
  | _, _, .int i, _, _, .int _, r => by
    obtain ⟨t, rfl⟩ := r
    exact ⟨[], .int i t, List.not_mem_nil⟩
  | _, _, .str z, _, _, .str _, r => by
    obtain ⟨t, rfl⟩ := r
    exact ⟨[], .str z t, List.not_mem_nil⟩
  | _, _, .tup q, _, _, .tup e t, r => by
    cases r
    obtain ⟨its, rv, ⟨o, ho, hc, n, hd⟩, _⟩ := I.tuple (SqT.of e)
    obtain ⟨as, q1, q2⟩ := DaL.rd hK I hr q t rv
    exact ⟨as, .tuple ho hc hd q1, q2⟩
  | _, _, .kt q, _, _, .kt e t, r => by
    cases r
    obtain ⟨its, rv, ⟨o, ho, hc, n, hd⟩, _⟩ := I.tuple (hK ▸ e.sq)
    obtain ⟨as, q1, q2⟩ := DaL.rd hK I hr q t rv
    exact ⟨as, .tuple ho hc hd q1, q2⟩
  | _, _, .fro q, _, _, .fro e t, r => by
    cases r
    obtain ⟨its, rv, ⟨o, n, ho, hc, _, hd⟩, _⟩ := I.list (hK ▸ e.sq)
    obtain ⟨as, q1, q2⟩ := DaL.rd hK I hr q t rv
    refine ⟨_, .list ho hc hd q1, fun m => ?_⟩
    rcases List.mem_cons.mp m with z | z
    · refine not_one hr (fun ob z => ?_) z
      rcases e with ⟨o2, e⟩ | (e | ⟨o2, e⟩) | ⟨o2, its2, n2, e, _⟩
      · rw [e] at z
        cases z
      · cases e
      · cases e
      · rw [hK] at e
        rw [k_free I e] at z
        cases z
    · exact q2 z
  | _, _, .lst e q, _, _, .ref t, r => by
    cases r
    obtain ⟨vs, h1, h2⟩ := hr.lst e t
    obtain ⟨its, rv, ⟨o, n, ho, hc, _, hd⟩, _⟩ := I.list (SqL.of h1)
    obtain ⟨as, q1, q2⟩ := DaL.rd hK I hr q h2 rv
    refine ⟨_, .list ho hc hd q1, fun m => ?_⟩
    rcases List.mem_cons.mp m with z | z
    · refine not_one hr (fun ob z => ?_) z
      rw [h1] at z
      cases z
    · exact q2 z
  | _, _, .dct e q, _, _, .ref t, r => by
    cases r
    have z := hr.ob _ _ _ t e
    cases z with
    | @dK _ ws h1 h2 =>
      obtain ⟨_, hsm, us, kv, o, es, ep, ho, ex, hd, _, pr, _⟩ := I.hok _ _ h1
      obtain ⟨g1, g2⟩ := kr_vals h2
      obtain ⟨g3, g4⟩ := kv_vals kv
      obtain ⟨g5, g6⟩ := pairs_reads (h := s.heap) pr
      obtain ⟨bs, q1, q2⟩ := DaL.rd hK I hr q g1 g3
      have hl := q.len
      rw [List.length_map] at hl
      have ek : ∀ (l : List (Key × A)) (m : List (Key × Value)), l.map (·.1) = m.map (·.1) → (l.map fun p => keyD p.1) = m.map fun p => keyD p.1 := by
        intro l m e
        have e2 := congrArg (List.map keyD) e
        rw [List.map_map, List.map_map] at e2
        exact e2
      refine ⟨_, .dict ho ex.1 hd (as := []) (bs := bs) ?_ ?_, fun m => ?_⟩
      · rw [List.map_fst_zip (by rw [List.length_map, hl]; exact Nat.le_refl _), ek _ _ (g2.trans g4)]
        exact g5
      · rw [List.map_snd_zip (by rw [List.length_map, hl]; exact Nat.le_refl _), g6]
        exact q1
      · rcases List.mem_append.mp m with z | z
        · rw [List.mem_singleton] at z
          rw [← z] at hsm
          cases hsm
        · exact q2 z
theorem DaL.rd (hK : M.K = X.K) (I : Inv X pins σ H s) (hr : HR M ρ h H) : ∀ {a : List A} {d : List PyData}, DaL h a d → ∀ {v : List V} {u : List Value}, VRs M ρ H a v → Vals v u → ∃ as, ReadsAll s.heap u d as ∧ sysModules ∉ as
  | _, _, .nil, _, _, .nil, r => by
    cases r
    exact ⟨[], .nil, List.not_mem_nil⟩
  | _, _, .cons p q, _, _, .cons e t, r => by
    cases r with
    | cons r1 r2 =>
      obtain ⟨as, q1, q2⟩ := Da.rd hK I hr p e r1
      obtain ⟨bs, q3, q4⟩ := DaL.rd hK I hr q t r2
      refine ⟨_, .cons q1 q3, fun m => ?_⟩
      rcases List.mem_append.mp m with z | z
      · exact q2 z
      · exact q4 z
end
end
theorem repr_rd {X : Cx} {s : Shared} {u : Value} {d : PyData} {as : List Addr} {Q : Value → Shared → Prop} (hgd : X.A.guards = some []) (hu : X.A.units + 64 < cLine) (rd : Reads s.heap u d as) (na : d.hasDict = true → sysModules ∉ as) (hs : d.showable = true) (hdep : d.depth ≤ 60) (hz : d.shown.length ≤ sizeLine)
    (q : ∀ h' t tk, (∀ b o, s.heap.get? b = some o → h'.get? b = some o) → Q (.str d.shown t) { s with heap := h', toks := tk }) (q1 : ∀ t, t = s.toks → Q (.str d.shown t) { s with toks := s.toks + 1 }) : wpAny (model X.prog X.w) X.A (call (.builtin "repr") [u]) Q X.xe s := by
  cases rd with
  | none => exact PySem.P.repr_of_none (q1 _ rfl)
  | bool b => exact PySem.P.repr_of_bool (q1 _ rfl)
  | int i t => exact PySem.P.repr_of_int (by simpa [PyData.showable] using hs) (q1 _ rfl)
  | str z t => exact PySem.P.repr_of_str (q1 _ rfl) (by simpa only [PyData.shown] using hz)
  | list a1 a2 a3 a4 => exact repr_of_reads' (.list a1 a2 a3 a4) hs na hgd (by omega) (fun _ _ e => e) q hz
  | tuple a1 a2 a3 a4 => exact repr_of_reads' (.tuple a1 a2 a3 a4) hs na hgd (by omega) (fun _ _ e => e) q hz
  | dict a1 a2 a3 a4 a5 => exact repr_of_reads' (.dict a1 a2 a3 a4 a5) hs na hgd (by omega) (fun _ _ e => e) q hz
section
variable {X : Cx} {M : Ad}
theorem vrs1 {ρ : List Addr} {H : Hp} {a : A} {xs : List V} (r : VRs M ρ H [a] xs) : ∃ v, xs = [v] ∧ VR M ρ H a v := by
  cases r with
  | cons h r =>
    cases r
    exact ⟨_, rfl, h⟩
theorem vrs2 {ρ : List Addr} {H : Hp} {a b : A} {xs : List V} (r : VRs M ρ H [a, b] xs) : ∃ v u, xs = [v, u] ∧ VR M ρ H a v ∧ VR M ρ H b u := by
  cases r with
  | cons h r =>
    obtain ⟨u, rfl, e⟩ := vrs1 r
    exact ⟨_, _, rfl, h, e⟩
theorem cb_len (hK : M.K = X.K) : CallR X (.builtin "len") (lL M (bltW .len)) := by
  intro pins s σ H xs us Q I r z
  obtain ⟨ρ, h, as, hr, va, w⟩ := z
  unfold bltW at w
  split at w <;> first
    | contradiction
    | skip
  · obtain ⟨v, rfl, e⟩ := vrs1 va
    cases e
    exact call_len_str pins s σ H _ us Q I r ⟨_, rfl, w.1, w.2.now hr (.int _)⟩
  · obtain ⟨v, rfl, e⟩ := vrs1 va
    cases e with
    | tup e1 e2 => exact call_len_seq pins s σ H _ us Q I r ⟨_, _, rfl, .inr (SqT.of e1), by rw [← e2.length]; exact w.now hr (.int _)⟩
  · obtain ⟨v, rfl, e⟩ := vrs1 va
    cases e with
    | fro e1 e2 => exact call_len_seq pins s σ H _ us Q I r ⟨_, _, rfl, .inl (hK ▸ e1.sq), by rw [← e2.length]; exact w.now hr (.int _)⟩
  · obtain ⟨v, rfl, e⟩ := vrs1 va
    cases e with
    | kt e1 e2 => exact call_len_seq pins s σ H _ us Q I r ⟨_, _, rfl, .inr (hK ▸ e1.sq), by rw [← e2.length]; exact w.now hr (.int _)⟩
  · obtain ⟨v, rfl, e⟩ := vrs1 va
    cases e with
    | ref e =>
      obtain ⟨o, ho, ro⟩ := hr.is e
      rw [ho] at w
      cases ro with
      | lst g1 g2 => exact call_len_seq pins s σ H _ us Q I r ⟨_, _, rfl, .inl (SqL.of g1), by rw [← g2.length]; exact Up.now w hr (.int _)⟩
      | dK g1 g2 => exact call_lenD pins s σ H _ us Q I r ⟨_, _, rfl, g1, by rw [← Paired.length g2]; exact Up.now w hr (.int _)⟩
      | dT g1 g2 => exact call_len_dT pins s σ H _ us Q I r ⟨_, _, rfl, g1, by rw [← Paired.length g2]; exact Up.now w hr (.int _)⟩
      | ins _ _ _ _ => exact w.elim
theorem cb_max (hc : X.calm = true) : CallR X (.builtin "max") (lL M (bltW .max)) := by
  intro pins s σ H xs us Q I r z
  obtain ⟨ρ, h, as, hr, va, w⟩ := z
  unfold bltW at w
  split at w <;> first
    | contradiction
    | exact w.elim
    | (obtain ⟨v, u, rfl, e, f⟩ := vrs2 va
       cases e; cases f
       exact call_max2 hc pins s σ H _ us Q I r ⟨_, _, rfl, w.now hr (.int _)⟩)
theorem cb_min (hc : X.calm = true) : CallR X (.builtin "min") (lL M (bltW .min)) := by
  intro pins s σ H xs us Q I r z
  obtain ⟨ρ, h, as, hr, va, w⟩ := z
  unfold bltW at w
  split at w <;> first
    | contradiction
    | exact w.elim
    | (obtain ⟨v, u, rfl, e, f⟩ := vrs2 va
       cases e; cases f
       exact call_min2 hc pins s σ H _ us Q I r ⟨_, _, rfl, w.now hr (.int _)⟩)
theorem cb_divmod : CallR X (.builtin "divmod") (lL M (bltW .divmod)) := by
  intro pins s σ H xs us Q I r z
  obtain ⟨ρ, h, as, hr, va, w⟩ := z
  unfold bltW at w
  split at w <;> first
    | contradiction
    | exact w.elim
    | (obtain ⟨v, u, rfl, e, f⟩ := vrs2 va
       cases e; cases f
       exact call_divmod pins s σ H _ us Q I r ⟨_, _, rfl, w.1, fun p np => Up.tup w.2 hr np (.cons (.int _) (.cons (.int _) .nil))⟩)
theorem cb_sum (hc : X.calm = true) : CallR X (.builtin "sum") (lL M (bltW .sum)) := by
  intro pins s σ H xs us Q I r z
  obtain ⟨ρ, h, as, hr, va, w⟩ := z
  unfold bltW at w
  split at w <;> first
    | contradiction
    | exact w.elim
    | (obtain ⟨v, rfl, e⟩ := vrs1 va
       obtain ⟨ns, h1, h2⟩ := w
       cases e with
       | ref e =>
         obtain ⟨vs, g1, g2⟩ := hr.lst h1 e
         rw [g2.ints] at g1
         exact cr_sum hc pins s σ H _ us Q I r ⟨_, ns, rfl, SqL.of g1, h2.now hr (.int _)⟩)
theorem cb_any (hc : X.calm = true) : CallR X (.builtin "any") (lL M (bltW .any)) := by
  intro pins s σ H xs us Q I r z
  obtain ⟨ρ, h, as, hr, va, w⟩ := z
  unfold bltW at w
  split at w <;> first
    | contradiction
    | exact w.elim
    | (obtain ⟨v, rfl, e⟩ := vrs1 va
       obtain ⟨ns, h1, h2⟩ := w
       cases e with
       | ref e =>
         obtain ⟨vs, g1, g2⟩ := hr.lst h1 e
         rw [g2.bls] at g1
         exact cr_any hc pins s σ H _ us Q I r ⟨_, ns, rfl, SqL.of g1, h2.now hr (.bl _)⟩)
theorem cb_all (hc : X.calm = true) : CallR X (.builtin "all") (lL M (bltW .all)) := by
  intro pins s σ H xs us Q I r z
  obtain ⟨ρ, h, as, hr, va, w⟩ := z
  unfold bltW at w
  split at w <;> first
    | contradiction
    | exact w.elim
    | (obtain ⟨v, rfl, e⟩ := vrs1 va
       obtain ⟨ns, h1, h2⟩ := w
       cases e with
       | ref e =>
         obtain ⟨vs, g1, g2⟩ := hr.lst h1 e
         rw [g2.bls] at g1
         exact cr_all hc pins s σ H _ us Q I r ⟨_, ns, rfl, SqL.of g1, h2.now hr (.bl _)⟩)
theorem cb_repr (hK : M.K = X.K) (hgd : X.A.guards = some []) (hu : X.A.units + 64 < cLine) : CallR X (.builtin "repr") (lL M (bltW .repr)) := by
  intro pins s σ H xs us Q I r z
  obtain ⟨ρ, h, as, hr, va, w⟩ := z
  unfold bltW at w
  split at w <;> first
    | contradiction
    | exact w.elim
    | (obtain ⟨v, rfl, e⟩ := vrs1 va
       obtain ⟨d, h1, h2, h3, h4, h5⟩ := w
       obtain ⟨u, rfl, r1⟩ := vals1 r
       obtain ⟨as, rd, na⟩ := h1.rd hK I hr e r1
       exact repr_rd hgd hu rd (fun _ => na) h2 h3 h4 (fun h' t tk hk => ⟨.str _, H, I.kept (t' := tk) hk, ⟨_, rfl⟩, h5.now hr (.str _)⟩) (fun u' e => by cases e; exact ⟨.str _, H, I.tok _, ⟨_, rfl⟩, h5.now hr (.str _)⟩))
/-- what stands in a pair -/
def kOf (H : Hp) : V → Int × Int
  | .ref t => match H t with
    | some (.tup [.int a, .int b]) => (a, b)
    | _ => (0, 0)
  | _ => (0, 0)
theorem pairs_rel {ρ : List Addr} {H : Hp} : ∀ {ps : List (Int × Int)} {vs : List V}, VRs M ρ H (ps.map prA) vs → vs.map (kOf H) = ps ∧ ∀ x ∈ vs, ∃ t, x = V.ref t ∧ H t = some (.tup [.int (kOf H x).1, .int (kOf H x).2])
  | [], _, r => by
    cases r
    exact ⟨rfl, fun x m => nomatch m⟩
  | p :: ps, _, r => by
    cases r with
    | cons h r =>
      obtain ⟨i1, i2⟩ := pairs_rel r
      cases h with
      | @tup _ t _ e r2 =>
        obtain ⟨v, u, rfl, e1, e2⟩ := vrs2 r2
        cases e1
        cases e2
        have k : kOf H (.ref t) = p := by
          unfold kOf
          simp only [e]
        refine ⟨by rw [List.map_cons, i1, k], fun x m => ?_⟩
        rcases List.mem_cons.mp m with rfl | m
        · exact ⟨_, rfl, by rw [k]; exact e⟩
        · exact i2 x m
theorem pairs_back {ρ : List Addr} {H : Hp} : ∀ {vs : List V}, (∀ x ∈ vs, ∃ t, x = V.ref t ∧ H t = some (.tup [.int (kOf H x).1, .int (kOf H x).2])) → VRs M ρ H ((vs.map (kOf H)).map prA) vs
  | [], _ => .nil
  | v :: vs, h => by
    refine .cons ?_ (pairs_back fun x m => h x (List.mem_cons_of_mem _ m))
    obtain ⟨t, e1, e2⟩ := h v List.mem_cons_self
    rw [e1] at e2 ⊢
    exact .tup e2 (.cons (.int _) (.cons (.int _) .nil))
theorem sort_pairs {ρ : List Addr} {h : Hh} {H : Hp} {Q : VK} {ps : List (Int × Int)} {vs ys : List V} {p : Addr} (hr : HR M ρ h H) (r : VRs M ρ H (ps.map prA) vs)
    (q : ∀ qs : List (Int × Int), qs.Perm ps → qs.Pairwise (fun p q => SrtO.lexB q p = false) → new h (.lst (qs.map prA)) (Up M ρ H Q)) (h1 : SrtO.Srtd (ltP (kOf H)) ys) (h2 : SrtO.Stb (ltP (kOf H)) ys vs) (np : H p = none) : Q (.ref p) (upd H p (.lst ys)) := by
  obtain ⟨e1, e2⟩ := pairs_rel r
  have pm : (ys.map (kOf H)).Perm ps := by
    rw [← e1]
    exact h2.perm.map _
  refine Up.lst (q (ys.map (kOf H)) pm ?_) hr np (pairs_back fun x m => e2 x (h2.perm.mem_iff.mp m))
  refine List.pairwise_map.mpr (h1.imp fun {a b} z => z)
theorem cb_sorted (hc : X.calm = true) : CallR X (.builtin "sorted") (lL M (bltW .sorted)) := by
  intro pins s σ H xs us Q I r z
  obtain ⟨ρ, h, as, hr, va, w⟩ := z
  unfold bltW at w
  split at w <;> first
    | contradiction
    | exact w.elim
    | skip
  · obtain ⟨v, rfl, e⟩ := vrs1 va
    cases e with
    | tup e r1 =>
      rcases w with ⟨ns, rfl, q⟩ | ⟨ps, rfl, q⟩
      · rw [r1.ints] at e
        exact My.cr_sortedTI pins s σ H _ us Q I r ⟨_, ns, rfl, SqT.of e, fun ms p h1 h2 np => Up.lst (q ms h1 h2) hr np (VRs.ofInts _)⟩
      · exact My.cr_sortedTP pins s σ H _ us Q I r ⟨_, _, kOf H, rfl, SqT.of e, (pairs_rel r1).2, fun ys p h1 h2 np => sort_pairs hr r1 q h1 h2 np⟩
  · obtain ⟨v, rfl, e⟩ := vrs1 va
    cases e with
    | ref e =>
      rcases w with ⟨ys, h1, w⟩ | ⟨kvs, ns, h1, h2, h3, w⟩
      rotate_left
      · have z := hr.ob _ _ _ e h1
        cases z with
        | dK g1 g2 =>
          exact call_sortedDI hc pins s σ H _ us Q I r ⟨_, _, ns, rfl, .inl g1, by rw [← (kr_vals g2).2]; exact h2, h3, fun ms p h4 h5 np => Up.lst (w ms h4 h5) hr np (VRs.ofInts _)⟩
      obtain ⟨vs, g1, r1⟩ := hr.lst h1 e
      rcases w with ⟨ns, rfl, q⟩ | ⟨ps, rfl, q⟩
      · rw [r1.ints] at g1
        exact cr_sortedI pins s σ H _ us Q I r ⟨_, ns, rfl, SqL.of g1, fun ms p h1 h2 np => Up.lst (q ms h1 h2) hr np (VRs.ofInts _)⟩
      · exact cr_sortedPO pins s σ H _ us Q I r ⟨_, _, kOf H, rfl, SqL.of g1, (pairs_rel r1).2, fun ys p h1 h2 np => sort_pairs hr r1 q h1 h2 np⟩
theorem VRs.ofStrs {ρ : List Addr} {H : Hp} : ∀ ns : List PySem.Str, VRs M ρ H (ns.map A.str) (ns.map V.str)
  | [] => .nil
  | n :: r => .cons (.str n) (VRs.ofStrs r)
theorem cr_list_str (hc : X.calm = true) : CallR X (.type "list") (fun xs H Q => ∃ z : PySem.Str, xs = [.str z] ∧ z.length ≤ sizeLine ∧ ∀ l, H l = none → Q (.ref l) (upd H l (.lst ((z.cps.toList.map fun c => (⟨#[c]⟩ : PySem.Str)).map V.str)))) := by
  intro pins s σ H xs us Q I r h
  obtain ⟨z, rfl, hn, q⟩ := h
  obtain ⟨u, rfl, t, rfl⟩ := vals1 r
  refine PySem.call_list_str (I.ok.hd hc) _ t (fun h' tk acc c' hk e hi => ?_) hn
  refine ⟨.ref s.heap.objs.size, upd H s.heap.objs.size (.lst ((z.cps.toList.map fun c => (⟨#[c]⟩ : PySem.Str)).map V.str)), I.laid hk (Nat.le_refl _) ⟨by rw [List.length_map, List.length_map, Array.length_toList]; exact hn, acc.toList, c', ?_, by rw [Array.toArray_toList]; exact e⟩, rfl, q _ (I.hok.fresh (Nat.le_refl _))⟩
  refine vals_of_idx _ _ (by rw [List.length_map, List.length_map, Array.length_toList, Array.length_toList]; exact hi.1) fun j u hj => ?_
  obtain ⟨c, t', hc, rfl⟩ := hi.2 j u (by rw [← Array.getElem?_toList]; exact hj)
  exact ⟨.str ⟨#[c]⟩, by simp [hc], ⟨_, rfl⟩⟩
theorem cb_list (hc : X.calm = true) (hK : M.K = X.K) : CallR X (.type "list") (lL M (bltW .list)) := by
  intro pins s σ H xs us Q I r z
  obtain ⟨ρ, h, as, hr, va, w⟩ := z
  unfold bltW at w
  split at w <;> first
    | contradiction
    | exact w.elim
    | skip
  · obtain ⟨v, rfl, e⟩ := vrs1 va
    cases e with
    | tup e1 e2 => exact call_list_of pins s σ H _ us Q I r ⟨_, _, rfl, .inr (SqT.of e1), fun p np => Up.lst w hr np e2⟩
  · obtain ⟨v, rfl, e⟩ := vrs1 va
    cases e with
    | fro e1 e2 => exact call_list_of pins s σ H _ us Q I r ⟨_, _, rfl, .inl (hK ▸ e1.sq), fun p np => Up.lst w hr np e2⟩
  · obtain ⟨v, rfl, e⟩ := vrs1 va
    cases e with
    | kt e1 e2 => exact call_list_of pins s σ H _ us Q I r ⟨_, _, rfl, .inr (hK ▸ e1.sq), fun p np => Up.lst w hr np e2⟩
  · obtain ⟨v, rfl, e⟩ := vrs1 va
    cases e with
    | ref e =>
      obtain ⟨ys, h1, w⟩ := w
      obtain ⟨vs, g1, r1⟩ := hr.lst h1 e
      exact call_list_of pins s σ H _ us Q I r ⟨_, _, rfl, .inl (SqL.of g1), fun p np => Up.lst w hr np r1⟩
  · obtain ⟨v, rfl, e⟩ := vrs1 va
    cases e with
    | str => exact cr_list_str hc pins s σ H _ us Q I r ⟨_, rfl, w.1, fun p np => Up.lst w.2 hr np (VRs.ofStrs _)⟩
/-- tuple(a list): a new tuple, known whole -/
theorem call_tuple_fr : CallR X (.type "tuple") (fun xs H Q => ∃ p ys, xs = [.ref p] ∧ SqL X.K H p ys ∧ ∀ (l : Addr) (o : Obj), H l = none → o.cls = .type "tuple" → o.dict = none → Q (.ref l) (upd H l (.frz o (.tup ys)))) := by
  intro pins s σ H xs us Q I r h
  obtain ⟨p, ys, rfl, hq, q⟩ := h
  obtain ⟨u, rfl, rx⟩ := vals1 r
  cases rx
  obtain ⟨its, r', pl, hz⟩ := I.list hq
  have hlen := r'.length
  refine call_tuple_list pl.isList (fun h' kp => ?_) (by simp only [List.size_toArray] <;> omega)
  have I1 : Inv X pins σ H { s with heap := h' } := I.kept (t' := s.toks) kp
  have I2 : Inv X pins σ (upd H h'.objs.size (.frz { cls := .type "tuple", data := .seq its.toArray } (.tup ys))) { s with heap := h'.push { cls := .type "tuple", data := .seq its.toArray } } :=
    I1.laid (t' := s.toks) (fun b o e => Heap.get?_push_of_some _ e) (Nat.le_refl _) (show ObjOk X.prog X.w _ _ _ (.frz _ (.tup ys)) from ⟨Heap.get?_push_size _ rfl, hz, its, r', IsTup.new _ _⟩)
  exact ⟨.ref h'.objs.size, _, I2, rfl, q _ _ (I1.hok.fresh (Nat.le_refl _)) rfl rfl⟩
theorem Up.ktt {ρ : List Addr} {h : Hh} {H : Hp} {Q : VK} {xs : List A} {vs : List V} {p : Addr} {o : Obj} (q : Up M ρ H Q (.kt xs) h) (r : HR M ρ h H) (n : H p = none) (ho : o.cls = .type "tuple") (hd : o.dict = none) (e : VRs M ρ H xs vs) : Q (.ref p) (upd H p (.frz o (.tup vs))) := by
  have m : Mo M.K H (upd H p (.frz o (.tup vs))) := Mo.new n
  exact q ρ _ _ (List.prefix_refl _) m (r.other n) (.kt (.inr ⟨o, upd_same, ho, hd⟩) (e.mono (List.prefix_refl _) m))
theorem cb_tuple (hK : M.K = X.K) : CallR X (.type "tuple") (lL M (bltW .tuple)) := by
  intro pins s σ H xs us Q I r z
  obtain ⟨ρ, h, as, hr, va, w⟩ := z
  unfold bltW at w
  split at w <;> first
    | contradiction
    | exact w.elim
    | skip
  · obtain ⟨v, rfl, e⟩ := vrs1 va
    cases e with
    | tup e1 e2 => exact call_tuple_of pins s σ H _ us Q I r ⟨_, _, rfl, .inr ⟨SqT.of e1, w.now hr (.tup e1 e2)⟩⟩
  · obtain ⟨v, rfl, e⟩ := vrs1 va
    cases e with
    | fro e1 e2 => exact call_tuple_of pins s σ H _ us Q I r ⟨_, _, rfl, .inl ⟨hK ▸ e1.sq, fun p np => Up.tup w hr np e2⟩⟩
  · obtain ⟨v, rfl, e⟩ := vrs1 va
    cases e with
    | kt e1 e2 => exact call_tuple_of pins s σ H _ us Q I r ⟨_, _, rfl, .inr ⟨hK ▸ e1.sq, w.now hr (.kt e1 e2)⟩⟩
  · obtain ⟨v, rfl, e⟩ := vrs1 va
    cases e with
    | ref e =>
      obtain ⟨ys, h1, w⟩ := w
      obtain ⟨vs, g1, r1⟩ := hr.lst h1 e
      rcases w with w | w
      · exact call_tuple_of pins s σ H _ us Q I r ⟨_, _, rfl, .inl ⟨SqL.of g1, fun p np => Up.tup w hr np r1⟩⟩
      · exact call_tuple_fr pins s σ H _ us Q I r ⟨_, _, rfl, SqL.of g1, fun p o np ho hd => Up.ktt w hr np ho hd r1⟩
theorem cb_int : CallR X (.type "int") (lL M (bltW .int)) := by
  intro pins s σ H xs us Q I r z
  obtain ⟨ρ, h, as, hr, va, w⟩ := z
  unfold bltW at w
  split at w <;> first
    | contradiction
    | exact w.elim
    | skip
  · obtain ⟨v, rfl, e⟩ := vrs1 va
    cases e
    exact call_int1 pins s σ H _ us Q I r (.inl ⟨_, rfl, w.now hr (.int _)⟩)
  · obtain ⟨v, rfl, e⟩ := vrs1 va
    cases e
    exact call_int1 pins s σ H _ us Q I r (.inr ⟨_, rfl, w.now hr (.int _)⟩)
  · obtain ⟨v, rfl, e⟩ := vrs1 va
    obtain ⟨n, h1, h2, h3⟩ := w
    cases e
    exact call_int_str pins s σ H _ us Q I r ⟨_, n, rfl, h1, h2, h3.now hr (.int _)⟩
theorem cb_str : CallR X (.type "str") (lL M (bltW .str)) := by
  intro pins s σ H xs us Q I r z
  obtain ⟨ρ, h, as, hr, va, w⟩ := z
  unfold bltW at w
  split at w <;> first
    | contradiction
    | exact w.elim
    | skip
  · obtain ⟨v, rfl, e⟩ := vrs1 va
    cases e
    exact SkE.call_str_str pins s σ H _ us Q I r ⟨_, rfl, w.now hr (.str _)⟩
  · obtain ⟨v, rfl, e⟩ := vrs1 va
    cases e
    exact call_str_int pins s σ H _ us Q I r ⟨_, rfl, w.1, w.2.now hr (.str _)⟩
/-! ### methods -/
theorem mm_append : MtM X "list.append" (lM M (bmW .append)) := by
  intro pins s σ H x xs v us Q I rx r z
  obtain ⟨ρ, h, a, as, hr, va, vs, w⟩ := z
  unfold bmW at w
  split at w <;> first
    | contradiction
    | exact w.elim
    | skip
  · obtain ⟨ys, h1, h2, h3⟩ := w
    cases va with
    | ref e =>
      obtain ⟨y, rfl, ey⟩ := vrs1 vs
      obtain ⟨ws, g1, g2⟩ := hr.lst h1 e
      exact mt_append pins s σ H _ _ v us Q I rx r ⟨_, _, _, rfl, rfl, g1, by rw [← g2.length]; exact h2, Up.put h3 hr e .non (g2.append (.cons ey .nil))⟩
theorem mm_extend : MtM X "list.extend" (lM M (bmW .extend)) := by
  intro pins s σ H x xs v us Q I rx r z
  obtain ⟨ρ, h, a, as, hr, va, vs, w⟩ := z
  unfold bmW at w
  split at w <;> first
    | contradiction
    | exact w.elim
    | skip
  · obtain ⟨ys, zs, h1, h2, h3, h4⟩ := w
    cases va with
    | ref e =>
      obtain ⟨y, rfl, ey⟩ := vrs1 vs
      cases ey with
      | ref e2 =>
        obtain ⟨ws, g1, g2⟩ := hr.lst h1 e
        obtain ⟨us', g3, g4⟩ := hr.lst h2 e2
        exact mt_extend pins s σ H _ _ v us Q I rx r ⟨_, _, _, _, rfl, rfl, g1, g3, by rw [← g2.length, ← g4.length]; exact h3, Up.put h4 hr e .non (g2.append g4)⟩
theorem mm_reverse : MtM X "list.reverse" (lM M (bmW .reverse)) := by
  intro pins s σ H x xs v us Q I rx r z
  obtain ⟨ρ, h, a, as, hr, va, vs, w⟩ := z
  unfold bmW at w
  split at w <;> first
    | contradiction
    | exact w.elim
    | skip
  · obtain ⟨ys, h1, h2⟩ := w
    cases va with
    | ref e =>
      cases vs
      obtain ⟨ws, g1, g2⟩ := hr.lst h1 e
      exact mt_reverse pins s σ H _ _ v us Q I rx r ⟨_, _, rfl, rfl, g1, Up.put h2 hr e .non g2.reverse⟩
theorem mm_clear : MtM X "list.clear" (lM M (bmW .clear)) := by
  intro pins s σ H x xs v us Q I rx r z
  obtain ⟨ρ, h, a, as, hr, va, vs, w⟩ := z
  unfold bmW at w
  split at w <;> first
    | contradiction
    | exact w.elim
    | skip
  · obtain ⟨ys, h1, h2⟩ := w
    cases va with
    | ref e =>
      cases vs
      obtain ⟨ws, g1, g2⟩ := hr.lst h1 e
      exact mt_clear pins s σ H _ _ v us Q I rx r ⟨_, _, rfl, rfl, g1, Up.put h2 hr e .non .nil⟩
theorem VRs.dropLast {ρ : List Addr} {H : Hp} {a : List A} {v : List V} (r : VRs M ρ H a v) : VRs M ρ H a.dropLast v.dropLast := by
  rw [List.dropLast_eq_take, List.dropLast_eq_take, r.length]
  exact r.take _
theorem mm_pop : MtM X "list.pop" (lM M (bmW .pop)) := by
  intro pins s σ H x xs v us Q I rx r z
  obtain ⟨ρ, h, a, as, hr, va, vs, w⟩ := z
  unfold bmW at w
  split at w <;> first
    | contradiction
    | exact w.elim
    | skip
  · obtain ⟨ys, y, h1, h2, h3⟩ := w
    cases va with
    | ref e =>
      cases vs
      obtain ⟨ws, g1, g2⟩ := hr.lst h1 e
      obtain ⟨u, g3, g4⟩ := g2.get h2
      exact mt_pop pins s σ H _ _ v us Q I rx r ⟨_, _, u, rfl, rfl, g1, by rw [← g2.length]; exact g3, Up.put h3 hr e g4 g2.dropLast⟩
theorem mm_popat : MtM X "list.pop" (lM M (bmW .popat)) := by
  intro pins s σ H x xs v us Q I rx r z
  obtain ⟨ρ, h, a, as, hr, va, vs, w⟩ := z
  unfold bmW at w
  split at w <;> first
    | contradiction
    | exact w.elim
    | skip
  · obtain ⟨ys, k, y, h1, h2, h3, h4, h5, h6⟩ := w
    cases va with
    | ref e =>
      obtain ⟨i, rfl, ei⟩ := vrs1 vs
      cases ei
      obtain ⟨ws, g1, g2⟩ := hr.lst h1 e
      obtain ⟨u, g3, g4⟩ := g2.get h5
      exact mt_popAt pins s σ H _ _ v us Q I rx r ⟨_, _, _, k, u, rfl, rfl, g1, h2, h3, by rw [← g2.length]; exact h4, g3, Up.put h6 hr e g4 (g2.eraseIdx k)⟩
theorem mm_insert : MtR X "list.insert" (lM M (bmW .insert)) := by
  intro pins s σ H x xs v us Q I rx r z
  obtain ⟨ρ, h, a, as, hr, va, vs, w⟩ := z
  unfold bmW at w
  split at w <;> first
    | contradiction
    | exact w.elim
    | skip
  · obtain ⟨ys, h1, h2, h3, h4, h5⟩ := w
    cases va with
    | ref e =>
      obtain ⟨u1, u2, rfl, e1, e2⟩ := vrs2 vs
      cases e1
      obtain ⟨ws, g1, g2⟩ := hr.lst h1 e
      refine mt_insert pins s σ H _ _ v us Q I rx r ⟨_, _, _, _, rfl, rfl, g1, by rw [← g2.length]; exact h2, h3, h4, Up.put h5 hr e .non ?_⟩
      rw [List.append_assoc]
      exact (g2.take _).append (.cons e2 (g2.drop _))
theorem sqL_of (hK : M.K = X.K) {ρ : List Addr} {h : Hh} {H : Hp} {a : A} {x : V} {xs : List A} (hr : HR M ρ h H) (va : VR M ρ H a x) (s : sqL a h xs) : ∃ p vs, x = .ref p ∧ SqL X.K H p vs ∧ VRs M ρ H xs vs := by
  unfold sqL at s
  split at s
  · subst s
    cases va with
    | fro e r => exact ⟨_, _, rfl, hK ▸ e.sq, r⟩
  · cases va with
    | ref e =>
      obtain ⟨vs, g1, g2⟩ := hr.lst s e
      exact ⟨_, _, rfl, SqL.of g1, g2⟩
  · exact s.elim
theorem sqW_of (hK : M.K = X.K) {ρ : List Addr} {h : Hh} {H : Hp} {a : A} {x : V} {xs : List A} (hr : HR M ρ h H) (va : VR M ρ H a x) (s : sqW a h xs) : ∃ p vs, x = .ref p ∧ (SqL X.K H p vs ∨ SqT X.K H p vs) ∧ VRs M ρ H xs vs := by
  unfold sqW at s
  split at s
  · subst s
    cases va with
    | tup e r => exact ⟨_, _, rfl, .inr (SqT.of e), r⟩
  · subst s
    cases va with
    | kt e r => exact ⟨_, _, rfl, .inr (hK ▸ e.sq), r⟩
  · subst s
    cases va with
    | fro e r => exact ⟨_, _, rfl, .inl (hK ▸ e.sq), r⟩
  · cases va with
    | ref e =>
      obtain ⟨vs, g1, g2⟩ := hr.lst s e
      exact ⟨_, _, rfl, .inl (SqL.of g1), g2⟩
  · exact s.elim
theorem eqV_str {x y : PySem.Str} : eqV (.str x) (.str y) = decide (x = y) := by
  show (x == y) = decide (x = y)
  rw [Bool.eq_iff_iff, beq_iff_eq, decide_eq_true_iff]
theorem mm_indexL (hK : M.K = X.K) : MtR X "list.index" (lM M (bmW .indexL)) := by
  intro pins s σ H x xs v us Q I rx r z
  obtain ⟨ρ, h, a, as, hr, va, vs, w⟩ := z
  unfold bmW at w
  split at w <;> first
    | contradiction
    | exact w.elim
    | skip
  · obtain ⟨ys, j, h1, h2, h3, h4⟩ := w
    obtain ⟨u, rfl, e1⟩ := vrs1 vs
    cases e1
    obtain ⟨p, ws, rfl, g1, g2⟩ := sqL_of hK hr va h1
    obtain rfl := g2.strs
    refine mt_index pins s σ H _ _ v us Q I rx r ⟨p, _, _, j, _, rfl, rfl, g1, rfl, flat_strs ys, by rw [List.getElem?_map, h2]; rfl, by rw [eqV_str]; exact decide_eq_true rfl, fun m z' hm e => ?_, h4.now hr (.int _)⟩
    rw [List.getElem?_map] at e
    obtain ⟨y', ey, rfl⟩ := Option.map_eq_some_iff.mp e
    rw [eqV_str]
    exact decide_eq_false fun z => h3 m hm (z ▸ ey)
theorem mm_indexT (hK : M.K = X.K) : MtR X "tuple.index" (lM M (bmW .indexT)) := by
  intro pins s σ H x xs v us Q I rx r z
  obtain ⟨ρ, h, a, as, hr, va, vs, w⟩ := z
  unfold bmW at w
  split at w <;> first
    | contradiction
    | exact w.elim
    | skip
  · obtain ⟨ys, j, h1, h2, h3, h4⟩ := w
    subst h1
    obtain ⟨u, rfl, e1⟩ := vrs1 vs
    cases e1
    cases va with
    | kt e r2 =>
      obtain rfl := r2.strs
      exact mt_tup_index pins s σ H _ _ v us Q I rx r ⟨_, ys, _, j, rfl, rfl, hK ▸ e.sq, h2, h3, h4.now hr (.int _)⟩
theorem mm_indexS : MtR X "str.index" (lM M (bmW .indexS)) := by
  intro pins s σ H x xs v us Q I rx r z
  obtain ⟨ρ, h, a, as, hr, va, vs, w⟩ := z
  unfold bmW at w
  split at w <;> first
    | contradiction
    | exact w.elim
    | skip
  · obtain ⟨i, rest, h1, h2⟩ := w
    obtain ⟨u, rfl, e1⟩ := vrs1 vs
    cases e1
    cases va
    exact mt_sindex pins s σ H _ _ v us Q I rx r ⟨_, _, i, rest, rfl, rfl, h1, h2.now hr (.int _)⟩
theorem mm_join (hK : M.K = X.K) : MtR X "str.join" (lM M (bmW .join)) := by
  intro pins s σ H x xs v us Q I rx r z
  obtain ⟨ρ, h, a, as, hr, va, vs, w⟩ := z
  unfold bmW at w
  split at w <;> first
    | contradiction
    | exact w.elim
    | skip
  · obtain ⟨ys, h1, h2, h3⟩ := w
    obtain ⟨u, rfl, e1⟩ := vrs1 vs
    cases va
    obtain ⟨p, ws, rfl, g1, g2⟩ := sqW_of hK hr e1 h1
    obtain rfl := g2.strs
    exact mt_join pins s σ H _ _ v us Q I rx r ⟨_, p, ys, rfl, rfl, g1, h2, h3.now hr (.str _)⟩
theorem mm_split : MtR X "str.split" (lM M (bmW .split)) := by
  intro pins s σ H x xs v us Q I rx r z
  obtain ⟨ρ, h, a, as, hr, va, vs, w⟩ := z
  unfold bmW at w
  split at w <;> first
    | contradiction
    | exact w.elim
    | skip
  · obtain ⟨h1, h2, h3⟩ := w
    obtain ⟨u, rfl, e1⟩ := vrs1 vs
    cases va
    cases e1
    exact mt_split pins s σ H _ _ v us Q I rx r ⟨_, _, rfl, rfl, h1, h2, fun p np => Up.lst h3 hr np (VRs.ofStrs _)⟩
theorem mm_startswith : MtR X "str.startswith" (lM M (bmW .startswith)) := by
  intro pins s σ H x xs v us Q I rx r z
  obtain ⟨ρ, h, a, as, hr, va, vs, w⟩ := z
  unfold bmW at w
  split at w <;> first
    | contradiction
    | exact w.elim
    | skip
  · obtain ⟨u, rfl, e1⟩ := vrs1 vs
    cases va
    cases e1
    exact mt_startswith pins s σ H _ _ v us Q I rx r ⟨_, _, rfl, rfl, w.now hr (.bl _)⟩
theorem mm_upper : MtR X "str.upper" (lM M (bmW .upper)) := by
  intro pins s σ H x xs v us Q I rx r z
  obtain ⟨ρ, h, a, as, hr, va, vs, w⟩ := z
  unfold bmW at w
  split at w <;> first
    | contradiction
    | exact w.elim
    | skip
  · cases vs
    cases va
    exact mt_upper pins s σ H _ _ v us Q I rx r ⟨_, rfl, rfl, w.1, w.2.now hr (.str _)⟩
theorem mm_strip : MtR X "str.strip" (lM M (bmW .strip)) := by
  intro pins s σ H x xs v us Q I rx r z
  obtain ⟨ρ, h, a, as, hr, va, vs, w⟩ := z
  unfold bmW at w
  split at w <;> first
    | contradiction
    | exact w.elim
    | skip
  · cases vs
    cases va
    exact mt_strip pins s σ H _ _ v us Q I rx r ⟨_, rfl, rfl, w.1, w.2.now hr (.str _)⟩
theorem mm_rstripC : MtR X "str.rstrip" (lM M (bmW .rstripC)) := by
  intro pins s σ H x xs v us Q I rx r z
  obtain ⟨ρ, h, a, as, hr, va, vs, w⟩ := z
  unfold bmW at w
  split at w <;> first
    | contradiction
    | exact w.elim
    | skip
  · obtain ⟨u, rfl, e1⟩ := vrs1 vs
    cases va
    cases e1
    exact mt_rstripChars pins s σ H _ _ v us Q I rx r ⟨_, _, rfl, rfl, w.1, w.2.now hr (.str _)⟩
end
end Z

/-! ### the surroundings of a text, and what its terms ask there -/
namespace Z
open PySem PySem.Spec PyProof.Rows L2
abbrev SpZ := List V → Hp → VK → (Bool → XK) → Prop
/-- an error that a call let go: true: its context is None -/
def CXb : Bool → Program → World → List Env → Hp → Shared → XK → Value → Shared → Prop
  | true => L2N.CX
  | false => L2.CX
def TakesB (b : Bool) (X : Cx) (W : WX) : Prop := match b with
  | true => L2N.Takes X W
  | false => L2.Takes X W
/-- what is known of an error's object -/
def Zk : Bool → Value → Option Addr → Obj → Prop
  | true => L2N.Zn
  | false => Zc
theorem Zk.zc {k : Bool} {cls : Value} {d : Option Addr} {o : Obj} (h : Zk k cls d o) : Zc cls d o := by
  cases k with
  | true => exact L2N.Zn.zc h
  | false => exact h
def CXz (P : Program) (w : World) (outer : List Env) (H : Hp) (s : Shared) (E : Bool → XK) (u : Value) (s' : Shared) : Prop := ∃ b, CXb b P w outer H s (E b) u s'
def CRz (outer : List Env) (P : Program) (w : World) (H : Hp) (s : Shared) (Q : VK) (E : Bool → XK) (r : Result) (s' : Shared) : Prop :=
  match r with
  | .ok (.ret u) => CE outer P w H s Q u s'
  | .ok _ => False
  | .error e => CXz P w outer H s E e s'
/-- a def keeps a promise of the machine, while nothing is being written out -/
structure FnZ (P : Program) (w : World) (K : PySem.W.Frag) (mg : PySem.Str → Option Value) (base : Heap) (k : Nat) (f : Addr) (fd : FuncData) (ps : List PySem.Str) (sp : SpZ) : Prop where
  len : ∀ vs H Q E, sp vs H Q E → vs.length = ps.length
  run : ∀ (A : Around) (outer : List Env) (s : Shared) (H : Hp) (args : Args) (us : List Value) (vs : List V) (Q : VK) (E : Bool → XK), A.guards = some [] → Room k A →
    Env0 P w K mg base A outer s H → BindsTo s fd args (ps.zip us) → Vals vs us → sp vs H Q E → codeAny (model P w) A (.call (.ref f) args) (CRz outer P w H s Q E) s
def spOf (M : Ad) (g : GQ) (n : Nat) : SpZ := fun vs H Q E => ∃ ρ h as, as.length = n ∧ HR M ρ h H ∧ VRs M ρ H as vs ∧ g as h (Up M ρ H Q) (UpX M ρ H E)
/-- what an error's __init__ does -/
def iniS (C : Addr) (fl : List PySem.Str) : Sp := fun vs H Q _ => ∃ (a : Addr) (ws : List V), vs = .ref a :: ws ∧ ws.length = fl.length ∧ H a = some (exo a C none) ∧ ∀ dx, H dx = none → dx ≠ a → Q .non (upd (upd H dx (exd dx (fl.zip ws).reverse)) a (exo a C (some dx)))
/-- what stands for an error's class -/
structure ErrZ (P : Program) (w : World) (K : PySem.W.Frag) (mg : PySem.Str → Option Value) (base : Heap) (fl : List String) (C : Addr) : Prop where
  few : fl.length ≤ 1000
  oex : OexC K C
  noF : ∀ f ∈ fl, PySem.W.findIn K (.ref C) (st f) = some none
  xf : XfC K C
  hcl : (PySem.W.clsIn K C).isSome = true
  ha : PySem.W.findIn K (.ref C) "__class__" = some (some (.builtin "object.__class__"))
  hm : PySem.W.mroIn K C (.type "object") = some true
  hn : PySem.W.specialIn K (.builtin "object.__class__") "__get__" = some (some (.builtin "getset_descriptor.__get__"))
  ht : PySem.W.takesIn K (.builtin "object.__class__") = some true
  ini : ∃ (fI : Addr) (fd : FuncData), PySem.W.findIn K (.ref C) "__init__" = some (some (.ref fI)) ∧ PySem.W.typeIn K (.ref fI) = some (.type "function") ∧ Binds K fd ("self" :: fl.map st) [] ∧
    FnOk P w K mg base CX0 1 fI fd ("self" :: fl.map st) (iniS C (fl.map st)) ∧ L2H.FnH P w K mg base CX0 1 fI fd ("self" :: fl.map st) (iniS C (fl.map st))
def bnames : List String := ["len", "max", "min", "list", "tuple", "int", "str", "sum", "any", "all", "sorted", "repr", "divmod", "isinstance", "range", "enumerate", "zip", "reversed", "bool", "dict", "set"]
def bkinds : List String := ["NoneType", "bool", "int", "str", "list", "tuple", "dict"]
/-- the class that a name tells -/
def clsV (M : Ad) (c : String) : Option (V × Value) := match M.cl c with
  | some a => some (.ref a, .ref a)
  | none => if c ∈ btypes then some (.ty c, .type c) else none
structure Gok (pg : Pg) (M : Ad) (P : Program) (w : World) (mg : PySem.Str → Option Value) (base : Heap) (g : Fid → GQ) (k : Nat) : Prop where
  mono : GMono g
  blt : ∀ x ∈ bnames, mg (st x) = none
  cn : ∀ c, pg.cn c = true → (clsV M c).isSome = true
  obk : ∀ x ∈ bkinds, M.ob x = false
  bve : mg (st "ValueError") = none
  con : ∀ x v, pg.c x = some v → ∃ u v', mg (st x) = some u ∧ RelV v' u ∧ ∀ ρ H, VR M ρ H v v'
  cls : ∀ C Ca, M.cl C = some Ca → mg (st C) = some (.ref Ca)
  obj : ∀ C Ca, M.ob C = true → M.cl C = some Ca → Cls M.K Ca ∧ PySem.W.findIn M.K (.ref Ca) "__class__" = some (some (.builtin "object.__class__")) ∧ PySem.W.specialIn M.K (.builtin "object.__class__") "__get__" = some (some (.builtin "getset_descriptor.__get__")) ∧
    PySem.W.takesIn M.K (.builtin "object.__class__") = some true ∧ PySem.W.mroIn M.K Ca (.type "object") = some true
  na : ∀ C Ca f, M.cl C = some Ca → (pg.fl C).contains f = true → NoAttr M.K Ca (st f)
  kit : ∀ C Ca c v u, pg.cn c = true → M.cl C = some Ca → clsV M c = some (v, u) → PySem.W.kitOne M.K (.ref Ca) u = some (isB pg C c)
  kitB : ∀ t c v u, pg.cn c = true → t ∈ bkinds → clsV M c = some (v, u) → PySem.W.kitOne M.K (.type t) u = some (isB pg t c)
  d : ∀ x fn, pg.d x = some fn → ∃ f fd, mg (st x) = some (.ref f) ∧ PySem.W.keepIn M.K (.ref f) = true ∧ (∀ j, j ≤ fn.df → Binds M.K fd (fn.ps.map st) (List.replicate j .none)) ∧ FnZ P w M.K mg base (3 * k) f fd (fn.ps.map st) (spOf M (g (.d x)) fn.ps.length)
  m : ∀ C m fn Ca, pg.m C m = some fn → m ≠ "__init__" → M.cl C = some Ca → Cls M.K Ca ∧ ∃ f fd, Meth M.K Ca (st m) f ∧ (∀ j, j ≤ fn.df → Binds M.K fd (fn.ps.map st) (List.replicate j .none)) ∧ FnZ P w M.K mg base (3 * k) f fd (fn.ps.map st) (spOf M (g (.m C m)) fn.ps.length)
  i : ∀ C fn, pg.m C "__init__" = some fn → M.ob C = true ∧ ∃ Ca f fd, M.cl C = some Ca ∧ Mk M.K Ca f ∧ (∀ j, j ≤ fn.df → Binds M.K fd (fn.ps.map st) (List.replicate j .none)) ∧ FnZ P w M.K mg base (3 * k) f fd (fn.ps.map st) (spOf M (g (.m C "__init__")) fn.ps.length)
  fa : ∀ x fn, pg.d x = some fn → ∃ f, M.fa x = some f ∧ mg (st x) = some (.ref f)
  er : ∀ x fl, pg.er x = some fl → ∃ Ca, M.cl x = some Ca ∧ ErrZ P w M.K mg base fl Ca
  exm : ∀ c d Ca Da fl, pg.cn d = true → pg.er c = some fl → M.cl c = some Ca → M.cl d = some Da → PySem.W.exmOne M.K (.ref Ca) (.ref Da) = some ((pg.up c).contains d)
/-- the surroundings of a body, or of a comprehension's block, or of an except suite -/
structure Cok (pg : Pg) (M : Ad) (g : Fid → GQ) (k : Nat) (N : List PySem.Str) (X : Cx) (sc : Scope) (hot : Hot) (W : Bool → WX) : Prop where
  hN : X.N = N
  nd : N.Nodup
  hK : M.K = X.K
  hsc : X.env.scope = sc
  gd : X.A.guards = some []
  un : X.A.units + 65 < cLine
  tk : ∀ b, TakesB b X (W b)
  G : Gok pg M X.prog X.w X.mg X.base g k
  calm : hot = none → X.calm = true ∧ Room (3 * k + 2) X.A
/-- the error that is handled -/
structure Xh where
  a : Addr
  c : Value
  d : Option Addr
  n : Option Nat
def Sx (M : Ad) (pg : Pg) (hot : Hot) (x : Xh) (ρ : List Addr) (H : Hp) (xx : Option (String × List (String × A))) (σ : L2.St) : Prop := match hot with
  | none => xx = none
  | some _ => (∃ c fl fs Ca dd ws, xx = some (c, fs) ∧ pg.er c = some fl ∧ x.c = .ref Ca ∧ M.cl c = some Ca ∧ x.d = some dd ∧ H dd = some (.xd ws) ∧ FR M ρ H fs ws) ∧ ∀ i, x.n = some i → σ[i]? = some (some (.ref x.a))
structure Rl (M : Ad) (pg : Pg) (hot : Hot) (x : Xh) (ρ : List Addr) (h : Hh) (H : Hp) (σa : SA) (xx : Option (String × List (String × A))) (σ : L2.St) : Prop where
  hr : HR M ρ h H
  sr : SR M ρ H σa σ
  sx : Sx M pg hot x ρ H xx σ
section
variable {M : Ad} {pg : Pg} {hot : Hot} {x : Xh} {ρ ρ' : List Addr} {h h' : Hh} {H H' : Hp} {σa : SA} {xx : Option (String × List (String × A))} {σ : L2.St}
theorem Sx.mono (s : Sx M pg hot x ρ H xx σ) (p : ρ <+: ρ') (m : Mo M.K H H') : Sx M pg hot x ρ' H' xx σ := by
  cases hot with
  | none => exact s
  | some n =>
    obtain ⟨⟨c, fl, fs, Ca, dd, ws, h1, h2, h3, h4, h5, h6, h7⟩, z⟩ := s
    exact ⟨⟨c, fl, fs, Ca, dd, ws, h1, h2, h3, h4, h5, m.xd _ _ h6, h7.mono p m⟩, z⟩
theorem Rl.mono (r : Rl M pg hot x ρ h H σa xx σ) (p : ρ <+: ρ') (m : Mo M.K H H') (hr : HR M ρ' h' H') : Rl M pg hot x ρ' h' H' σa xx σ := ⟨hr, r.sr.mono p m, r.sx.mono p m⟩
end
abbrev Xx := Option (String × List (String × A))
section
variable (M : Ad) (pg : Pg) (hot : Hot) (x : Xh) (W : Bool → WX)
/-- what the machine asks, over the layer's slots and heap -/
def Lf (t : Xx → WE) : L2.TE := fun σ H Q => ∃ ρ h σa xx, Rl M pg hot x ρ h H σa xx σ ∧ t xx σa h (Up M ρ H Q) (UpX M ρ H fun b cls d H' => W b cls d σ H')
def LfL (t : Xx → SA → Hh → QL → XQ → Prop) : TA := fun σ H Q => ∃ ρ h σa xx, Rl M pg hot x ρ h H σa xx σ ∧ t xx σa h (UpL M ρ H Q) (UpX M ρ H fun b cls d H' => W b cls d σ H')
def UpB (ρ : List Addr) (H : Hp) (Q : Bool → Hp → Prop) : Bool → Hh → Prop := fun k h' => ∀ ρ' H', ρ <+: ρ' → Mo M.K H H' → HR M ρ' h' H' → Q k H'
def LfB (t : Xx → SA → Hh → (Bool → Hh → Prop) → XQ → Prop) : TT := fun σ H Q => ∃ ρ h σa xx, Rl M pg hot x ρ h H σa xx σ ∧ t xx σa h (UpB M ρ H Q) (UpX M ρ H fun b cls d H' => W b cls d σ H')
end
theorem PE.imp {X : Cx} {e : Expr} {t u : L2.TE} (p : PE X e t) (f : ∀ σ H Q, u σ H Q → t σ H Q) : PE X e u := ⟨fun pins s σ H Q I z => p.run pins s σ H Q I (f σ H Q z)⟩
theorem PA.imp {X : Cx} {e : List Expr} {t u : TA} (p : PA X e t) (f : ∀ σ H Q, u σ H Q → t σ H Q) : PA X e u := ⟨fun pos pins s σ H Q I z => p.run pos pins s σ H Q I (f σ H Q z)⟩
theorem PT.imp {X : Cx} {e : Expr} {t u : TT} (p : PT X e t) (f : ∀ σ H Q, u σ H Q → t σ H Q) : PT X e u := ⟨fun pins s σ H Q I z => p.run pins s σ H Q I (f σ H Q z)⟩
theorem PW.imp {X : Cx} {e : Expr} {t u : TT} (p : PW X e t) (f : ∀ σ H Q, u σ H Q → t σ H Q) : PW X e u := ⟨fun wh pins s σ H Q I z => p.run wh pins s σ H Q I (f σ H Q z)⟩
theorem PO.imp {X : Cx} {e : Option Expr} {t u : L2.TO} (p : PO X e t) (f : ∀ σ H Q, u σ H Q → t σ H Q) : PO X e u := ⟨fun pins s σ H Q I z => p.run pins s σ H Q I (f σ H Q z)⟩
section
variable {M : Ad} {pg : Pg} {hot : Hot} {x : Xh} {W : Bool → WX} {ρ : List Addr} {h : Hh} {H : Hp} {σa : SA} {xx : Xx} {σ : L2.St}
theorem Lf.of {t : Xx → WE} {R : QV} {X0 : XQ} {Q : VK} (m : ∀ xx, WMono (t xx)) (r : Rl M pg hot x ρ h H σa xx σ) (w : t xx σa h R X0) (hx : XLe X0 (UpX M ρ H fun b cls d H' => W b cls d σ H'))
    (k : ∀ a h' ρ' H' v, ρ <+: ρ' → Mo M.K H H' → Rl M pg hot x ρ' h' H' σa xx σ → VR M ρ' H' a v → R a h' → Q v H') : Lf M pg hot x W t σ H Q :=
  ⟨ρ, h, σa, xx, r, m xx _ _ _ _ _ _ (fun a h' z ρ' H' v p mo hr vr => k a h' ρ' H' v p mo (r.mono p mo hr) vr z) hx w⟩
theorem LfL.of {t : Xx → SA → Hh → QL → XQ → Prop} {R : QL} {X0 : XQ} {Q : List V → Hp → Prop} (m : ∀ xx σ h Q Q' X X', (∀ a h, Q a h → Q' a h) → XLe X X' → t xx σ h Q X → t xx σ h Q' X') (r : Rl M pg hot x ρ h H σa xx σ) (w : t xx σa h R X0) (hx : XLe X0 (UpX M ρ H fun b cls d H' => W b cls d σ H'))
    (k : ∀ a h' ρ' H' v, ρ <+: ρ' → Mo M.K H H' → Rl M pg hot x ρ' h' H' σa xx σ → VRs M ρ' H' a v → R a h' → Q v H') : LfL M pg hot x W t σ H Q :=
  ⟨ρ, h, σa, xx, r, m xx _ _ _ _ _ _ (fun a h' z ρ' H' v p mo hr vr => k a h' ρ' H' v p mo (r.mono p mo hr) vr z) hx w⟩
end
end Z

/-! ### the shapes of texts -/
namespace Z
open PySem PySem.Spec PyProof.Rows L2
def noStar : Expr → Bool
  | .Starred .. => false
  | _ => true
theorem TE.star {N : List PySem.Str} {hot : Hot} {sc : Scope} {c : E} {e : Expr} (t : TE N hot sc c e) : noStar e = true := by
  cases t <;> rfl
theorem TEs.star {N : List PySem.Str} {hot : Hot} {sc : Scope} : ∀ {c : Es} {e : List Expr}, TEs N hot sc c e → e.all noStar = true
  | _, _, .nil => rfl
  | _, _, .cons p q => by
    rw [List.all_cons, p.star, q.star]
    rfl
theorem star_cons {e : Expr} {es : List Expr} {env : Env} (h : noStar e = true) : starEach (e :: es) env = (false, eval e env) :: starEach es env := by
  cases e <;> first
    | rfl
    | cases h
theorem star_all {env : Env} : ∀ {es : List Expr}, es.all noStar = true → starEach es env = es.map fun e => (false, eval e env)
  | [], _ => rfl
  | e :: es, h => by
    rw [List.all_cons, Bool.and_eq_true] at h
    rw [star_cons h.1, star_all h.2]
    rfl
theorem back_any {env : Env} {pos : Pos} {es : List Expr} (h : es.all noStar = true) : (backTo pos (starEach es env)).any (·.1) = false := by
  rw [star_all h]
  unfold backTo
  rw [List.map_map, List.any_map]
  simp
theorem TE.base {N : List PySem.Str} {hot : Hot} {sc : Scope} {c : E} {e : Expr} (t : TE N hot sc c e) (f : PySem.Str) (env : Env) : attributeBase e f env (eval e env) = eval e env := by
  cases t with
  | @call sc f as xs p pos h1 h2 h3 h4 =>
    cases xs with
    | nil =>
      unfold attributeBase
      simp only [h3, Bool.true_or, if_true]
    | cons _ _ => rfl
  | @mk sc f as xs p pos h1 h2 h3 h4 =>
    cases xs with
    | nil =>
      unfold attributeBase
      simp only [h3, Bool.true_or, if_true]
    | cons _ _ => rfl
  | meth h1 h2 => rfl
  | bm h1 h2 h3 h4 => rfl
  | _ => rfl
theorem meth_eval {o : Expr} {m : PySem.Str} {es : List Expr} {ap pos : Pos} {env : Env} (hb : attributeBase o m env (eval o env) = eval o env) (hs : es.all noStar = true) (hl : es.length < 30) (hp : (ap.endLine == pos.line) = true) :
    eval (.Call (.Attribute o m ap) es [] pos) env = (do
      let ov ← eval o env
      standAt ap.atName
      let (f, first) ← holding [ov] (getMethod ov m (do return (← importBound o env).getD true))
      callWith pos f first (backTo pos (starEach es env)) (backToKw pos (keywordEach [] env))) := by
  show (do
    let ov ← attributeBase o m env (eval o env)
    standAt ap.atName
    methodCall o m ap pos env ov (es.length + ([] : List Keyword).length) (backTo pos (starEach es env)) (backToKw pos (keywordEach [] env))) = _
  rw [hb]
  have hf : methodCallForm (es.length + ([] : List Keyword).length) (backTo pos (starEach es env)) (backToKw pos (keywordEach [] env)) = true := by
    unfold methodCallForm
    have z : (backTo pos (starEach es env)).all (fun x => !x.1) = true := by
      rw [star_all hs]
      unfold backTo
      rw [List.map_map, List.all_map]
      simp
    simp only [z, Bool.true_and, Bool.and_eq_true]
    refine ⟨rfl, ?_⟩
    show decide (es.length + 0 + 0 < 30) = true
    simpa using hl
  unfold methodCall calleeOf methodCallPos
  simp only [hf, hp, if_true, Bool.not_true, Bool.false_or, pure_bind]
theorem TE.plainIx {N : List PySem.Str} {hot : Hot} {sc : Scope} {c : E} {e : Expr} (t : TE N hot sc c e) : PlainIx e := by
  cases t <;> exact fun _ _ => rfl
theorem TE.marks {N : List PySem.Str} {hot : Hot} {sc : Scope} {c : E} {e : Expr} (t : TE N hot sc c e) (op : CmpOp) : behindInMarks op e = false := by
  cases t <;> rfl
theorem TE.folded {N : List PySem.Str} {hot : Hot} {sc : Scope} {c : E} {e : Expr} (t : TE N hot sc c e) (env : Env) (x : Value) : foldedSetIterable e env x = pure x := by
  cases t <;> rfl
theorem TI.folded {N : List PySem.Str} {hot : Hot} {sc : Scope} {c : I} {tg e : Expr} (t : TI N hot sc c tg e) (env : Env) (x : Value) : foldedSetIterable e env x = pure x := by
  cases t with
  | ex h => exact h.folded env x
  | _ => rfl
theorem swaps_no {v : Expr} {t : Option Expr} {l : Nat} {env : Env} (h : noLC v = true) : swapsWith v t l env = pure false := by
  cases v <;> first
    | rfl
    | cases h
theorem swaps_sub {v o i : Expr} {p : Pos} {l : Nat} {env : Env} : swapsWith v (some (.Subscript o i p)) l env = pure false := by
  cases v <;> rfl
theorem swaps_attr {v o : Expr} {f : PySem.Str} {p : Pos} {l : Nat} {env : Env} : swapsWith v (some (.Attribute o f p)) l env = pure false := by
  cases v <;> rfl
theorem swaps_tup {v : Expr} {es : List Expr} {k : Nat} {p : Pos} {l : Nat} {env : Env} : swapsWith v (some (.Tuple es k p)) l env = pure false := by
  cases v <;> rfl
/-- what is no and, or, not, if, comparison -/
def plainT : Expr → Bool
  | .UnaryOp .Not _ _ => false
  | .BoolOp .. => false
  | .IfExp .. => false
  | .Compare .. => false
  | _ => true
theorem isTrue_plain {e : Expr} {env : Env} (h : plainT e = true) (whole : Sem Value) : isTrue e env whole = (do let v ← whole; standAt e.pos; holding [v] (truthy v)) := by
  cases e <;> first
    | rfl
    | (cases h; done)
    | (rename_i op _ _
       cases op <;> first
         | rfl
         | cases h)
/-! ### calls -/
section
variable {X : Cx} {W : Bool → WX} {k : Nat} {f C : Addr} {fd : FuncData} {ps : List PySem.Str} {sp : SpZ} {ds : List Value} {dvs : List V} {x m : PySem.Str} {p pos apos : Pos} {o : Expr} {es : List Expr} {ta : L2.TE} {t : L2.TA}
theorem xe_of {pins : List (Addr × Obj)} {σ : L2.St} {H : Hp} {s s' : Shared} {e : Value} (tk : ∀ b, TakesB b X (W b)) (I : Inv X pins σ H s) (q : CXz X.prog X.w X.stack H s (fun b cls d H' => W b cls d σ H') e s') : X.xe e s' := by
  obtain ⟨b, q⟩ := q
  cases b with
  | false => exact tk false e s' (XE.of_call I (fun _ _ _ z => z) q)
  | true => exact tk true e s' (L2N.XE.of_call I (fun _ _ _ z => z) q)
theorem run_fnZ {pins : List (Addr × Obj)} {σ : L2.St} {H : Hp} {s : Shared} {Q : VK} {us : List Value} {vs : List V} (F : FnZ X.prog X.w X.K X.mg X.base k f fd ps sp) (hgd : X.A.guards = some []) (hr : Room k X.A) (hb : Binds X.K fd ps ds) (hd : Vals dvs ds) (tk : ∀ b, TakesB b X (W b))
    (I : Inv X pins σ H s) (r : Vals vs us) (z : sp (vs ++ dvs) H Q fun b cls d H' => W b cls d σ H') : wpAny (model X.prog X.w) X.A (call (.ref f) us) (EP X pins σ Q) X.xe s := by
  have r2 : Vals (vs ++ dvs) (us ++ ds) := r.append hd
  have hl : (us ++ ds).length = ps.length := r2.length.symm.trans (F.len _ _ _ _ z)
  apply wpAny_call
  refine codeAny_mono (F.run X.A X.stack s H ⟨us, []⟩ (us ++ ds) (vs ++ dvs) Q _ hgd hr I.env0 (hb s us I.kIn hl) r2 z) ?_
  intro res s' hq
  rcases res with e | fl
  · exact xe_of tk I hq
  · cases fl with
    | ret u => exact I.after hq
    | next => cases hq
    | brk => cases hq
    | cont => cases hq
theorem pe_callZ {e : Expr} (F : FnZ X.prog X.w X.K X.mg X.base k f fd ps sp) (hgd : X.A.guards = some []) (hr : Room k X.A) (hg : Gl X x) (hm : X.mg x = some (.ref f)) (hk : PySem.W.keepIn X.K (.ref f) = true) (hb : Binds X.K fd ps ds) (hd : Vals dvs ds) (tk : ∀ b, TakesB b X (W b))
    (ha : PA X (e :: es) t) (hs : (e :: es).all noStar = true) (hdb : (x == ("__debug__" : PySem.Str)) = false) : PE X (.Call (.Name x p) (e :: es) [] pos) (fun σ H Q => t σ H fun vs H1 => sp (vs ++ dvs) H1 Q fun b cls d H' => W b cls d σ H') := by
  constructor
  intro pins s σ H Q I z
  apply wpAny_Call_Name_kw
  refine ld_glob I hg hm ?_ hdb
  rw [List.all_cons, Bool.and_eq_true] at hs
  refine PySem.W.callWith_K (h₀ := X.base) I.ok.mod.kin hk (thn (ha.run pos pins s σ H _ I z) ?_) (star_cons hs.1) (back_any hs.2)
  intro us s1 hh
  obtain ⟨vs, H1, I1, r, q⟩ := hh
  exact ⟨I1.kIn, run_fnZ F hgd hr hb hd tk I1 r q⟩
theorem pe_callZ0 (F : FnZ X.prog X.w X.K X.mg X.base k f fd ps sp) (hgd : X.A.guards = some []) (hr : Room k X.A) (hg : Gl X x) (hm : X.mg x = some (.ref f)) (hk : PySem.W.keepIn X.K (.ref f) = true) (hb : Binds X.K fd ps ds) (hd : Vals dvs ds) (tk : ∀ b, TakesB b X (W b))
    (hdb : (x == ("__debug__" : PySem.Str)) = false) : PE X (.Call (.Name x p) [] [] pos) (fun σ H Q => sp dvs H Q fun b cls d H' => W b cls d σ H') := by
  constructor
  intro pins s σ H Q I z
  apply wpAny_Call_Name_kw
  refine ld_glob I hg hm ?_ hdb
  exact PySem.W.callWith_K0 I.kIn hk (run_fnZ (us := []) (vs := []) F hgd hr hb hd tk I .nil z)
/-- o.m(..): what o is comes first -/
theorem pe_methZ {e : Expr} (he : PE X o ta) (hgd : X.A.guards = some []) (tk : ∀ b, TakesB b X (W b)) (hbase : attributeBase o m X.env (eval o X.env) = eval o X.env) (hs : (e :: es).all noStar = true) (hl : (e :: es).length < 30) (hp : (apos.endLine == pos.line) = true) (ha : PA X (e :: es) t) :
    PE X (.Call (.Attribute o m apos) (e :: es) [] pos) (fun σ H Q => ta σ H fun x H1 => ∃ a C dx fs k f fd ps sp ds dvs, x = .ref a ∧ H1 a = some (.ins C dx fs) ∧ fs.lookup m = none ∧ Cls X.K C ∧ Meth X.K C m f ∧ FnZ X.prog X.w X.K X.mg X.base k f fd ps sp ∧ Room k X.A ∧ Binds X.K fd ps ds ∧ Vals dvs ds ∧
      t σ H1 fun vs H2 => sp (.ref a :: (vs ++ dvs)) H2 Q fun b cls d H' => W b cls d σ H') := by
  constructor
  intro pins s σ H Q I z
  refine PySem.W.methodCall_KW (thn (he.run pins s σ H _ I z) ?_) (meth_eval hbase hs hl hp)
  intro u s1 hh
  obtain ⟨x, H1, I1, rx, a, C, dx, fs, k, f, fd, ps, sp, ds, dvs, rfl, ea, hlk, hc, hm, F, hr, hb, hd, q⟩ := hh
  have eu : u = Value.ref a := rx
  subst eu
  refine getmeth_ok I1 ea hc hm hlk ?_
  rw [List.all_cons, Bool.and_eq_true] at hs
  refine PySem.W.callWith_K (first := [.ref a]) (h₀ := X.base) I.ok.mod.kin hm.kp (thn (ha.run pos pins s1 σ H1 _ I1 q) ?_) (star_cons hs.1) (back_any hs.2)
  intro us s2 hh
  obtain ⟨vs, H2, I2, r, q2⟩ := hh
  exact ⟨I2.kIn, run_fnZ (us := .ref a :: us) (vs := .ref a :: vs) F hgd hr hb hd tk I2 (.cons rfl r) q2⟩
theorem pe_methZ0 (he : PE X o ta) (hgd : X.A.guards = some []) (tk : ∀ b, TakesB b X (W b)) (hbase : attributeBase o m X.env (eval o X.env) = eval o X.env) (hp : (apos.endLine == pos.line) = true) :
    PE X (.Call (.Attribute o m apos) [] [] pos) (fun σ H Q => ta σ H fun x H1 => ∃ a C dx fs k f fd ps sp ds dvs, x = .ref a ∧ H1 a = some (.ins C dx fs) ∧ fs.lookup m = none ∧ Cls X.K C ∧ Meth X.K C m f ∧ FnZ X.prog X.w X.K X.mg X.base k f fd ps sp ∧ Room k X.A ∧ Binds X.K fd ps ds ∧ Vals dvs ds ∧
      sp (.ref a :: dvs) H1 Q fun b cls d H' => W b cls d σ H') := by
  constructor
  intro pins s σ H Q I z
  refine PySem.W.methodCall_KW (thn (he.run pins s σ H _ I z) ?_) (meth_eval (es := []) hbase rfl (by decide) hp)
  intro u s1 hh
  obtain ⟨x, H1, I1, rx, a, C, dx, fs, k, f, fd, ps, sp, ds, dvs, rfl, ea, hlk, hc, hm, F, hr, hb, hd, q⟩ := hh
  have eu : u = Value.ref a := rx
  subst eu
  refine getmeth_ok I1 ea hc hm hlk ?_
  exact PySem.W.callWith_K0 (first := [.ref a]) I1.kIn hm.kp (run_fnZ (us := [.ref a]) (vs := [.ref a]) F hgd hr hb hd tk I1 (.cons rfl .nil) q)
theorem run_makeZ {pins : List (Addr × Obj)} {σ : L2.St} {H : Hp} {s : Shared} {Q : VK} {us : List Value} {vs : List V} (M : Mk X.K C f) (F : FnZ X.prog X.w X.K X.mg X.base k f fd ps sp) (hgd : X.A.guards = some []) (hr : Room (k + 1) X.A) (hb : Binds X.K fd ps ds) (hd : Vals dvs ds) (tk : ∀ b, TakesB b X (W b))
    (I : Inv X pins σ H s) (r : Vals vs us) (z : ∀ x dx, H x = none → H dx = none → dx ≠ x → sp (.ref x :: (vs ++ dvs)) (upd (upd H dx (.own x)) x (.ins C dx [])) (fun v H2 => v = .non ∧ Q (.ref x) H2) fun b cls d H' => W b cls d σ H') :
    wpAny (model X.prog X.w) X.A (call (.ref C) us) (EP X pins σ Q) X.xe s := by
  have lt : s.heap.objs.size ≤ s.heap.objs.size + 1 := Nat.le_succ _
  have zq := z (s.heap.objs.size + 1) s.heap.objs.size (I.hok.fresh lt) (I.hok.fresh (Nat.le_refl _)) (Nat.ne_of_lt (Nat.lt_succ_self _))
  have J := Inv.made (C := C) I
  have rr : Vals (V.ref (s.heap.objs.size + 1) :: (vs ++ dvs)) (Value.ref (s.heap.objs.size + 1) :: (us ++ ds)) := Paired.cons rfl (Vals.append r hd)
  have len : ((Value.ref (s.heap.objs.size + 1) :: us) ++ ds).length = ps.length := (Vals.length rr).symm.trans (F.len _ _ _ _ zq)
  have go := F.run (X.A.under (.builtin "type.__call__" ⟨.ref C :: us, []⟩)) X.stack _ _ ⟨Value.ref (s.heap.objs.size + 1) :: us, []⟩ _ _ _ _ (by simpa [Around.under, Code.guards, pushGuards, show (Code.builtin "type.__call__" ⟨.ref C :: us, []⟩).isGuard = false from rfl] using hgd) (hr.make C us []) (J.env0.make C us []) (hb _ (Value.ref (s.heap.objs.size + 1) :: us) J.kIn len) rr zq
  refine wpAny_call (make_map (f := f) I.kIn M.makes M.init (beq_iff_eq.mp M.fn) (codeAny_mono go ?_))
  intro res s' hq
  rcases res with e | fl
  · exact xe_of tk J hq
  · cases fl with
    | ret u =>
      obtain ⟨v, H', I3, rv, ev, q3⟩ := J.after hq
      subst ev
      exact ⟨rv, V.ref _, H', I3, rfl, q3⟩
    | next => cases hq
    | brk => cases hq
    | cont => cases hq
theorem pe_makeZ {e : Expr} (M : Mk X.K C f) (F : FnZ X.prog X.w X.K X.mg X.base k f fd ps sp) (hgd : X.A.guards = some []) (hr : Room (k + 1) X.A) (hg : Gl X x) (hm : X.mg x = some (.ref C)) (hb : Binds X.K fd ps ds) (hd : Vals dvs ds) (tk : ∀ b, TakesB b X (W b))
    (ha : PA X (e :: es) t) (hs : (e :: es).all noStar = true) (hdb : (x == ("__debug__" : PySem.Str)) = false) :
    PE X (.Call (.Name x p) (e :: es) [] pos) (fun σ H Q => t σ H fun vs H1 => ∀ x dx, H1 x = none → H1 dx = none → dx ≠ x → sp (.ref x :: (vs ++ dvs)) (upd (upd H1 dx (.own x)) x (.ins C dx [])) (fun v H2 => v = .non ∧ Q (.ref x) H2) fun b cls d H' => W b cls d σ H') := by
  constructor
  intro pins s σ H Q I z
  apply wpAny_Call_Name_kw
  refine ld_glob I hg hm ?_ hdb
  rw [List.all_cons, Bool.and_eq_true] at hs
  refine PySem.W.callWith_K (h₀ := X.base) I.ok.mod.kin M.kp (thn (ha.run pos pins s σ H _ I z) ?_) (star_cons hs.1) (back_any hs.2)
  intro us s1 hh
  obtain ⟨vs, H1, I1, r, q⟩ := hh
  exact ⟨I1.kIn, run_makeZ M F hgd hr hb hd tk I1 r q⟩
theorem pe_makeZ0 (M : Mk X.K C f) (F : FnZ X.prog X.w X.K X.mg X.base k f fd ps sp) (hgd : X.A.guards = some []) (hr : Room (k + 1) X.A) (hg : Gl X x) (hm : X.mg x = some (.ref C)) (hb : Binds X.K fd ps ds) (hd : Vals dvs ds) (tk : ∀ b, TakesB b X (W b))
    (hdb : (x == ("__debug__" : PySem.Str)) = false) :
    PE X (.Call (.Name x p) [] [] pos) (fun σ H Q => ∀ x dx, H x = none → H dx = none → dx ≠ x → sp (.ref x :: dvs) (upd (upd H dx (.own x)) x (.ins C dx [])) (fun v H2 => v = .non ∧ Q (.ref x) H2) fun b cls d H' => W b cls d σ H') := by
  constructor
  intro pins s σ H Q I z
  apply wpAny_Call_Name_kw
  refine ld_glob I hg hm ?_ hdb
  exact PySem.W.callWith_K0 I.kIn M.kp (run_makeZ (us := []) (vs := []) M F hgd hr hb hd tk I .nil z)
end
end Z

/-! ### targets and sources -/
namespace Z
open PySem PySem.Spec PyProof.Rows L2
section
variable {pg : Pg} {M : Ad} {g : Fid → GQ} {k : Nat} {N : List PySem.Str} {X : Cx} {sc : Scope} {hot : Hot} {W : Bool → WX}
theorem TG.each {b : Option Scope} {t : Tg} {e : Expr} (h : TG N b sc t e) (es : List Expr) (env : Env) : assignEach (e :: es) env = (false, assign e env) :: assignEach es env := by
  cases h <;> rfl
theorem TGs.each {b : Option Scope} (env : Env) : ∀ {ts : List Tg} {es : List Expr}, TGs N b sc ts es → assignEach es env = es.map fun e => (false, assign e env)
  | _, _, .nil => rfl
  | _, _, .cons p q => by
    rw [p.each, q.each env]
    rfl
theorem wipe_set {σ : L2.St} {i : Nat} {v : Option V} : ∀ {vs : List Nat}, i ∈ vs → L2.wipe (σ.set i v) vs = L2.wipe σ vs
  | j :: vs, h => by
    unfold L2.wipe
    by_cases e : i = j
    · subst e
      by_cases h2 : i ∈ vs
      · rw [wipe_set h2]
      · have z : ∀ (vs : List Nat), i ∉ vs → L2.wipe (σ.set i v) vs = (L2.wipe σ vs).set i v := by
          intro vs
          induction vs with
          | nil => intro _; rfl
          | cons a vs ih =>
            intro hn
            unfold L2.wipe
            rw [ih fun z => hn (List.mem_cons_of_mem _ z), List.set_comm _ _ fun z => hn (by rw [z]; exact List.mem_cons_self)]
        rw [z vs h2, List.set_set]
    · rcases List.mem_cons.mp h with z | z
      · exact absurd z e
      · rw [wipe_set z]
mutual
theorem tgW_el : ∀ (t : Tg) {v : A} {σ : SA} {P : SA → Prop} {c : Prop}, (∀ τ, P τ → c) → tgW t v σ P → c
  | .nm _, _, _, _, _, q, z => q _ z
  | .tp ts, _, _, _, _, q, z => by
    obtain ⟨xs, _, z⟩ := z
    exact tgsW_el ts q z
theorem tgsW_el : ∀ (t : List Tg) {v : List A} {σ : SA} {P : SA → Prop} {c : Prop}, (∀ τ, P τ → c) → tgsW t v σ P → c
  | [], _, _, _, _, q, z => q _ z.2
  | t :: ts, _, _, _, _, q, z => by
    obtain ⟨x, r, _, z⟩ := z
    exact tgW_el t (fun τ w => tgsW_el ts q w) z
end
theorem tgs_len {b : Option Scope} : ∀ {ts : List Tg} {es : List Expr} {xs : List A} {σ : SA} {Q : SA → Prop}, TGs N b sc ts es → tgsW ts xs σ Q → xs.length = es.length
  | _, _, _, _, _, .nil, q => by
    rw [q.1]
    rfl
  | _, _, _, _, _, .cons (t := t) h1 h2, q => by
    obtain ⟨x, r, rfl, q⟩ := q
    exact congrArg Nat.succ (tgW_el t (fun τ w => tgs_len h2 w) q)
/-- a target -/
def LfG (M : Ad) (t : Tg) : L2.TG := fun v σ H Q => ∃ ρ h σa a, HR M ρ h H ∧ SR M ρ H σa σ ∧ VR M ρ H a v ∧ tgW t a σa fun σa' => ∀ σ', SR M ρ H σa' σ' → (∀ vs, tgIn vs t = true → L2.wipe σ' vs = L2.wipe σ vs) → Q σ' H
def LfGs (M : Ad) (t : List Tg) : L2.TGs := fun v σ H Q => ∃ ρ h σa a, HR M ρ h H ∧ SR M ρ H σa σ ∧ VRs M ρ H a v ∧ tgsW t a σa fun σa' => ∀ σ', SR M ρ H σa' σ' → (∀ vs, tgsIn vs t = true → L2.wipe σ' vs = L2.wipe σ vs) → Q σ' H
theorem PG.imp {e : Expr} {t u : L2.TG} (p : PG X e t) (f : ∀ v σ H Q, u v σ H Q → t v σ H Q) : PG X e u := ⟨fun pins s σ H v w Q I r z => p.run pins s σ H v w Q I r (f v σ H Q z)⟩
theorem PGs.imp {e : List Expr} {t u : L2.TGs} (p : PGs X e t) (f : ∀ v σ H Q, u v σ H Q → t v σ H Q) : PGs X e u := ⟨fun pins s σ H v w Q I r z => p.run pins s σ H v w Q I r (f v σ H Q z)⟩
mutual
theorem sG {b : Option Scope} (c : Cok pg M g k N X sc none W) (hf : ∀ x, cellT b x = true → X.fn x = true) : ∀ {t : Tg} {e : Expr}, TG N b sc t e → PG X e (LfG M t)
  | _, _, .nm (i := i) (x := x) h1 h2 => by
    have hl : Loc X.env.scope x := by
      rw [c.hsc]
      rcases h2 with z | z
      · exact .inl z
      · exact .inr z.2
    have hx : X.fn x = true ∨ X.env.scope.names.lookup x = some .local := by
      rw [c.hsc]
      rcases h2 with z | z
      · exact .inr z
      · exact .inl (hf x z.1)
    refine PG.imp (pg_name (by rw [c.hN]; exact c.nd) (by rw [c.hN]; exact h1) hl hx) ?_
    intro v σ H Q z
    obtain ⟨ρ, h, σa, a, hr, sr, vr, q⟩ := z
    exact q _ (sr.set vr) fun vs hv => wipe_set (by simpa [tgIn] using hv)
  | _, _, .tp (ts := ts) (es := es) h => by
    refine PG.imp (pg_tup (c.calm rfl).1 (sGs c hf h) (n := es.length) (by rw [h.each]; exact List.length_map _) (by rw [h.each, List.findIdx?_map]; exact List.findIdx?_eq_none_iff.mpr fun _ _ => rfl)) ?_
    intro v σ H Q z
    obtain ⟨ρ, h', σa, a, hr, sr, vr, xs, rfl, q⟩ := z
    cases vr with
    | tup e r =>
      refine ⟨_, _, rfl, SqT.of e, ?_, ρ, h', σa, xs, hr, sr, r, q⟩
      rw [← r.length]
      exact tgs_len h q
theorem sGs {b : Option Scope} (c : Cok pg M g k N X sc none W) (hf : ∀ x, cellT b x = true → X.fn x = true) : ∀ {t : List Tg} {e : List Expr}, TGs N b sc t e → PGs X e (LfGs M t)
  | _, _, .nil => by
    refine PGs.imp pgs_nil ?_
    intro v σ H Q z
    obtain ⟨ρ, h', σa, a, hr, sr, vr, rfl, q⟩ := z
    cases vr
    exact ⟨rfl, q σ sr fun _ _ => rfl⟩
  | _, _, .cons (t := t) (ts := ts) h1 h2 => by
    refine PGs.imp (pgs_cons (sG c hf h1) (sGs c hf h2) (by rw [h1.each]; rfl)) ?_
    intro v σ H Q z
    obtain ⟨ρ, h', σa, a, hr, sr, vr, x, r, rfl, q⟩ := z
    cases vr with
    | cons v1 v2 =>
      refine ⟨_, _, rfl, ρ, h', σa, x, hr, sr, v1, tgW_mono t (fun σ1 q1 σ' s1 w1 => ?_) q⟩
      refine ⟨ρ, h', σ1, r, hr, s1, v2, tgsW_mono ts (fun σ2 q2 σ'' s2 w2 => ?_) q1⟩
      refine q2 σ'' s2 fun vs hv => ?_
      simp only [tgsIn, Bool.and_eq_true] at hv
      rw [w2 vs hv.2, w1 vs hv.1]
end
def LfGL (M : Ad) (t : List Tg) : L2.TG := fun v σ H Q => ∃ ρ h σa n xs, HR M ρ h H ∧ SR M ρ H σa σ ∧ VR M ρ H (.ref n) v ∧ h[n]? = some (.lst xs) ∧ tgsW t xs σa fun σa' => ∀ σ', SR M ρ H σa' σ' → Q σ' H
theorem sGL {b : Option Scope} (c : Cok pg M g k N X sc none W) (hf : ∀ x, cellT b x = true → X.fn x = true) {ts : List Tg} {es : List Expr} {j : Nat} {p : Pos} (h : TGs N b sc ts es) : PG X (.Tuple es j p) (LfGL M ts) := by
  refine PG.imp (pg_lst (c.calm rfl).1 (sGs c hf h) (n := es.length) (by rw [h.each]; exact List.length_map _) (by rw [h.each, List.findIdx?_map]; exact List.findIdx?_eq_none_iff.mpr fun _ _ => rfl)) ?_
  intro v σ H Q z
  obtain ⟨ρ, h', σa, n, xs, hr, sr, vr, e, q⟩ := z
  cases vr with
  | ref e1 =>
    obtain ⟨vs, g1, r1⟩ := hr.lst e e1
    refine ⟨_, _, rfl, SqL.of g1, ?_, ρ, h', σa, xs, hr, sr, r1, tgsW_mono ts (fun σ1 q1 σ' s1 _ => q1 σ' s1) q⟩
    rw [← r1.length]
    exact tgs_len h q
theorem PG.or {e : Expr} {t u : L2.TG} (p : PG X e t) (q : PG X e u) : PG X e (fun v σ H Q => t v σ H Q ∨ u v σ H Q) := ⟨fun pins s σ H v w Q I r z => z.elim (p.run pins s σ H v w Q I r) (q.run pins s σ H v w Q I r)⟩
/-- a walk of the layer goes as the list xs, while the lists of G stay -/
def Wk (M : Ad) (J : It) (G : Gd) (xs : List A) (ρ0 : List Addr) (H0 : Hp) : Prop := ∀ ρ h H, ρ0 <+: ρ → Mo M.K H0 H → HR M ρ h H → gdOk G h → (∀ i, i < xs.length → J.go i H) ∧ J.stop xs.length H ∧ ∀ i x y H', xs[i]? = some x → J.yld i H y H' → Mo M.K H H' ∧ HR M ρ h H' ∧ VR M ρ H' x y
def LfI (M : Ad) (pg : Pg) (hot : Hot) (x : Xh) (W : Bool → WX) (t : Xx → SA → Hh → (Gd → List A → Hh → Prop) → XQ → Prop) : L2.TI := fun σ H R => ∃ ρ h σa xx, Rl M pg hot x ρ h H σa xx σ ∧ t xx σa h (fun G xs h' => ∀ ρ' H' J, ρ <+: ρ' → Mo M.K H H' → HR M ρ' h' H' → Wk M J G xs ρ' H' → R J H') (UpX M ρ H fun b cls d H' => W b cls d σ H')
theorem PI.imp {tg e : Expr} {t u : L2.TI} (p : PI X tg e t) (f : ∀ σ H R, u σ H R → t σ H R) : PI X tg e u := ⟨fun pins s σ H R I z => p.run pins s σ H R I (f σ H R z)⟩
section
variable {ρ0 : List Addr} {H0 : Hp}
theorem wk_list {n : Nat} {a : Addr} {xs : List A} (e : ρ0[n]? = some a) (hK : M.K = X.K) : Wk M (Itl X.K a) [(n, xs)] xs ρ0 H0 := by
  intro ρ h H p m hr gd
  have e' := pre_get p e
  obtain ⟨vs, h1, h2⟩ := hr.lst (gd (n, xs) List.mem_cons_self) e'
  have sq : SqL X.K H a vs := SqL.of h1
  refine ⟨fun i hi => ⟨vs, vs[i]'(by rw [← h2.length]; exact hi), sq, List.getElem?_eq_getElem _⟩, ⟨vs, sq, by rw [h2.length]; exact Nat.le_refl _⟩, fun i x y H' ex hy => ?_⟩
  obtain ⟨rfl, hy⟩ := hy
  obtain ⟨v, hv, r⟩ := h2.get ex
  have hv2 := hy vs sq
  rw [hv] at hv2
  cases hv2
  exact ⟨Mo.refl, hr, r⟩
theorem wk_fro {a : Addr} {xs : List A} {vs : List V} (e : FrL M.K H0 a vs) (r0 : VRs M ρ0 H0 xs vs) (hK : M.K = X.K) : Wk M (Itl X.K a) [] xs ρ0 H0 := by
  intro ρ h H p m hr gd
  have sq : SqL X.K H a vs := hK ▸ (m.fro _ _ e).sq
  have h2 := r0.mono p m
  refine ⟨fun i hi => ⟨vs, vs[i]'(by rw [← h2.length]; exact hi), sq, List.getElem?_eq_getElem _⟩, ⟨vs, sq, by rw [h2.length]; exact Nat.le_refl _⟩, fun i x y H' ex hy => ?_⟩
  obtain ⟨rfl, hy⟩ := hy
  obtain ⟨v, hv, r⟩ := h2.get ex
  have hv2 := hy vs sq
  rw [hv] at hv2
  cases hv2
  exact ⟨Mo.refl, hr, r⟩
theorem wk_tup {a : Addr} {xs : List A} {vs : List V} (e : ∀ H, Mo M.K H0 H → SqT X.K H a vs) (r0 : VRs M ρ0 H0 xs vs) : Wk M (Itt X.K a) [] xs ρ0 H0 := by
  intro ρ h H p m hr gd
  have sq : SqT X.K H a vs := e H m
  have h2 := r0.mono p m
  refine ⟨fun i hi => ⟨vs, vs[i]'(by rw [← h2.length]; exact hi), sq, List.getElem?_eq_getElem _⟩, ⟨vs, sq, by rw [h2.length]; exact Nat.le_refl _⟩, fun i x y H' ex hy => ?_⟩
  obtain ⟨rfl, hy⟩ := hy
  obtain ⟨v, hv, r⟩ := h2.get ex
  have hv2 := hy vs sq
  rw [hv] at hv2
  cases hv2
  exact ⟨Mo.refl, hr, r⟩
theorem wk_str {z : PySem.Str} : Wk M (Its z) [] (z.cps.toList.map fun c => A.str ⟨#[c]⟩) ρ0 H0 := by
  intro ρ h H p m hr gd
  refine ⟨fun i hi => by show i < z.cps.size; simpa using hi, by show z.cps.size ≤ _; simp, fun i x y H' ex hy => ?_⟩
  obtain ⟨rfl, c, hc, rfl⟩ := hy
  rw [List.getElem?_map] at ex
  have hc' : z.cps.toList[i]? = some c := by simpa using hc
  rw [hc'] at ex
  cases ex
  exact ⟨Mo.refl, hr, .str _⟩
theorem wk_rng {lo : Int} {n : Nat} : Wk M (Itr lo n) [] (rngA lo n) ρ0 H0 := by
  intro ρ h H p m hr gd
  refine ⟨fun i hi => by show i < n; simpa [rngA] using hi, by show n ≤ _; simp [rngA], fun i x y H' ex hy => ?_⟩
  obtain ⟨rfl, rfl⟩ := hy
  unfold rngA at ex
  rw [List.getElem?_map] at ex
  obtain ⟨j, hj, rfl⟩ := Option.map_eq_some_iff.mp ex
  obtain ⟨hl, hj⟩ := List.getElem?_eq_some_iff.mp hj
  rw [List.getElem_range] at hj
  subst hj
  exact ⟨Mo.refl, hr, .int _⟩
theorem wk_rngC {lo c : Int} {n : Nat} : Wk M (Itc lo c n) [] (rngC lo c n) ρ0 H0 := by
  intro ρ h H p m hr gd
  refine ⟨fun i hi => by show i < n; simpa [rngC] using hi, by show n ≤ _; simp [rngC], fun i x y H' ex hy => ?_⟩
  obtain ⟨rfl, rfl⟩ := hy
  unfold rngC at ex
  rw [List.getElem?_map] at ex
  obtain ⟨j, hj, rfl⟩ := Option.map_eq_some_iff.mp ex
  obtain ⟨hl, hj⟩ := List.getElem?_eq_some_iff.mp hj
  rw [List.getElem_range] at hj
  subst hj
  exact ⟨Mo.refl, hr, .int _⟩
theorem enA_len (xs : List A) : (enA xs).length = xs.length := by simp [enA]
theorem enA_get {xs : List A} {i : Nat} {x : A} (e : (enA xs)[i]? = some x) : ∃ y, xs[i]? = some y ∧ x = .tup [.int (i : Nat), y] := by
  unfold enA at e
  rw [List.getElem?_map] at e
  obtain ⟨p, hp, rfl⟩ := Option.map_eq_some_iff.mp e
  rw [List.getElem?_zipIdx] at hp
  obtain ⟨y, hy, rfl⟩ := Option.map_eq_some_iff.mp hp
  exact ⟨y, hy, by simp⟩
theorem wk_enum {n : Nat} {a : Addr} {xs : List A} (e : ρ0[n]? = some a) : Wk M (Ite X.K a) [(n, xs)] (enA xs) ρ0 H0 := by
  intro ρ h H p m hr gd
  have e' := pre_get p e
  obtain ⟨vs, h1, h2⟩ := hr.lst (gd (n, xs) List.mem_cons_self) e'
  have sq : SqL X.K H a vs := SqL.of h1
  rw [enA_len]
  refine ⟨fun i hi => ⟨vs, vs[i]'(by rw [← h2.length]; exact hi), sq, List.getElem?_eq_getElem _⟩, ⟨vs, sq, by rw [h2.length]; exact Nat.le_refl _⟩, fun i x y H' ex hy => ?_⟩
  obtain ⟨T, z, rfl, nT, rfl, hy⟩ := hy
  obtain ⟨u, hu, rfl⟩ := enA_get ex
  obtain ⟨v, hv, r⟩ := h2.get hu
  have hv2 := hy vs sq
  rw [hv] at hv2
  cases hv2
  have mo : Mo M.K H (upd H T (.tup [.int (i : Nat), z])) := Mo.new nT
  exact ⟨mo, hr.other nT, .tup upd_same (.cons (.int _) (.cons (r.mono (List.prefix_refl _) mo) .nil))⟩
theorem wk_enumT {a : Addr} {xs : List A} {vs : List V} (e : ∀ H, Mo M.K H0 H → SqT X.K H a vs) (r0 : VRs M ρ0 H0 xs vs) : Wk M (IteT X.K a) [] (enA xs) ρ0 H0 := by
  intro ρ h H p m hr gd
  have sq : SqT X.K H a vs := e H m
  have h2 := r0.mono p m
  rw [enA_len]
  refine ⟨fun i hi => ⟨vs, vs[i]'(by rw [← h2.length]; exact hi), sq, List.getElem?_eq_getElem _⟩, ⟨vs, sq, by rw [h2.length]; exact Nat.le_refl _⟩, fun i x y H' ex hy => ?_⟩
  obtain ⟨T, z, rfl, nT, rfl, hy⟩ := hy
  obtain ⟨u, hu, rfl⟩ := enA_get ex
  obtain ⟨v, hv, r⟩ := h2.get hu
  have hv2 := hy vs sq
  rw [hv] at hv2
  cases hv2
  have mo : Mo M.K H (upd H T (.tup [.int (i : Nat), z])) := Mo.new nT
  exact ⟨mo, hr.other nT, .tup upd_same (.cons (.int _) (.cons (r.mono (List.prefix_refl _) mo) .nil))⟩
theorem zipA_get {xs ys : List A} {i : Nat} {x : A} (e : (zipA xs ys)[i]? = some x) : ∃ y z, xs[i]? = some y ∧ ys[i]? = some z ∧ x = .tup [y, z] := by
  unfold zipA at e
  rw [List.getElem?_map] at e
  obtain ⟨p, hp, rfl⟩ := Option.map_eq_some_iff.mp e
  obtain ⟨h1, h2⟩ := List.getElem?_zip_eq_some.mp hp
  exact ⟨_, _, h1, h2, rfl⟩
theorem wk_zip {n n2 : Nat} {a b : Addr} {xs ys : List A} (e : ρ0[n]? = some a) (f : ρ0[n2]? = some b) : Wk M (Itz X.K a b) [(n, xs), (n2, ys)] (zipA xs ys) ρ0 H0 := by
  intro ρ h H p m hr gd
  obtain ⟨vs, h1, h2⟩ := hr.lst (gd (n, xs) List.mem_cons_self) (pre_get p e)
  obtain ⟨ws, h3, h4⟩ := hr.lst (gd (n2, ys) (List.mem_cons_of_mem _ List.mem_cons_self)) (pre_get p f)
  have sq : SqL X.K H a vs := SqL.of h1
  have sq2 : SqL X.K H b ws := SqL.of h3
  have hl : (zipA xs ys).length = min vs.length ws.length := by
    unfold zipA
    rw [List.length_map, List.length_zip, h2.length, h4.length]
  rw [hl]
  refine ⟨fun i hi => ⟨vs, ws, vs[i]'(by omega), ws[i]'(by omega), sq, sq2, List.getElem?_eq_getElem _, List.getElem?_eq_getElem _⟩, ⟨vs, ws, sq, sq2, by omega⟩, fun i x y H' ex hy => ?_⟩
  obtain ⟨T, z, z2, rfl, nT, rfl, hy, hy2⟩ := hy
  obtain ⟨u, u2, hu, hu2, rfl⟩ := zipA_get ex
  obtain ⟨v, hv, r⟩ := h2.get hu
  obtain ⟨v2, hv2, r2⟩ := h4.get hu2
  have q1 := hy vs sq
  rw [hv] at q1
  cases q1
  have q2 := hy2 ws sq2
  rw [hv2] at q2
  cases q2
  have mo : Mo M.K H (upd H T (.tup [z, z2])) := Mo.new nT
  exact ⟨mo, hr.other nT, .tup upd_same (.cons (r.mono (List.prefix_refl _) mo) (.cons (r2.mono (List.prefix_refl _) mo) .nil))⟩
theorem rev_get {α : Type} {xs : List α} {i : Nat} {x : α} (e : xs.reverse[i]? = some x) : i < xs.length ∧ xs[xs.length - 1 - i]? = some x := by
  have hl := (List.getElem?_eq_some_iff.mp e).1
  rw [List.length_reverse] at hl
  rw [List.getElem?_reverse hl] at e
  exact ⟨hl, e⟩
theorem wk_rev {n : Nat} {a : Addr} {xs : List A} {m : Nat} (e : ρ0[n]? = some a) (hm : m = xs.length) : Wk M (Itv X.K a m) [(n, xs)] xs.reverse ρ0 H0 := by
  intro ρ h H p mo hr gd
  subst hm
  obtain ⟨vs, h1, h2⟩ := hr.lst (gd (n, xs) List.mem_cons_self) (pre_get p e)
  have sq : SqL X.K H a vs := SqL.of h1
  rw [List.length_reverse]
  refine ⟨fun i hi => ⟨hi, vs, vs[xs.length - 1 - i]'(by have := h2.length; simp only at this; omega), sq, List.getElem?_eq_getElem _⟩, Nat.le_refl _, fun i x y H' ex hy => ?_⟩
  obtain ⟨rfl, hy⟩ := hy
  obtain ⟨_, ex⟩ := rev_get ex
  obtain ⟨v, hv, r⟩ := h2.get ex
  have hv2 := hy vs sq
  rw [hv] at hv2
  cases hv2
  exact ⟨Mo.refl, hr, r⟩
theorem wk_revT {a : Addr} {xs : List A} {vs : List V} {m : Nat} (e : ∀ H, Mo M.K H0 H → SqT X.K H a vs) (r0 : VRs M ρ0 H0 xs vs) (hm : m = vs.length) : Wk M (RT.ItvT X.K a m) [] xs.reverse ρ0 H0 := by
  intro ρ h H p mo hr gd
  subst hm
  have sq : SqT X.K H a vs := e H mo
  have h2 := r0.mono p mo
  rw [List.length_reverse, h2.length]
  refine ⟨fun i hi => ⟨hi, vs, vs[vs.length - 1 - i]'(by omega), sq, List.getElem?_eq_getElem _⟩, Nat.le_refl _, fun i x y H' ex hy => ?_⟩
  obtain ⟨rfl, hy⟩ := hy
  obtain ⟨_, ex⟩ := rev_get ex
  rw [h2.length] at ex
  obtain ⟨v, hv, r⟩ := h2.get ex
  have hv2 := hy vs sq
  rw [hv] at hv2
  cases hv2
  exact ⟨Mo.refl, hr, r⟩
end
/-- what is walked, by its value -/
def vI (K : PySem.W.Frag) (x : V) (H : Hp) (R : It → Hp → Prop) : Prop := (∃ a xs, x = .ref a ∧ SqL K H a xs ∧ R (Itl K a) H) ∨ (∃ a xs, x = .ref a ∧ SqT K H a xs ∧ R (Itt K a) H) ∨ ∃ z, x = .str z ∧ R (Its z) H
theorem pi_any {tg l : Expr} {tl : L2.TE} (hl : PE X l tl) : PI X tg l (fun σ H R => tl σ H fun x H1 => vI X.K x H1 R) := by
  constructor
  intro pins s σ H R I z
  refine thn (hl.run pins s σ H _ I z) ?_
  intro v s1 hh
  obtain ⟨x, H1, I1, r1, q⟩ := hh
  rcases q with ⟨a, xs, rfl, hq, q⟩ | ⟨a, xs, rfl, hq, q⟩ | ⟨y, rfl, q⟩
  · obtain ⟨its, rv, pl, hz⟩ := I1.list hq
    have ev : v = Value.ref a := r1
    subst ev
    exact wpAny_pyIter_list pl.isList (pi_one (tk := s1.toks) I1 _ (turn_list a _) ⟨_, Heap.get?_push_size _ rfl, rfl, rfl⟩ q)
  · obtain ⟨its, rv, pl, hz⟩ := I1.tuple hq
    have ev : v = Value.ref a := r1
    subst ev
    exact wpAny_pyIter_tuple (show s1.heap.IsTuple a its.toArray from pl) (pi_one (tk := s1.toks) I1 _ (turn_tuple a _) ⟨_, Heap.get?_push_size _ rfl, rfl, rfl⟩ q)
  · obtain ⟨t, rfl⟩ := r1
    by_cases ha : y.cps.all (· < 128) = true
    · exact wpAny_pyIter_ascii ha (pi_one (tk := s1.toks) I1 _ (turn_str _ _ t "str_ascii_iterator" (.inl rfl)) ⟨_, Heap.get?_push_size _ rfl, rfl, rfl⟩ q)
    · exact wpAny_pyIter_wide (by simpa using ha) (pi_one (tk := s1.toks) I1 _ (turn_str _ _ t "str_iterator" (.inr rfl)) ⟨_, Heap.get?_push_size _ rfl, rfl, rfl⟩ q)
end
end Z

/-! ### what an expression's term asks is enough -/
namespace Z
open PySem PySem.Spec PyProof.Rows L2
section
variable {pg : Pg} {M : Ad} {g : Fid → GQ} {k : Nat} {N : List PySem.Str} {xh : Xh}
theorem Cok.emono {X : Cx} {sc : Scope} {hot : Hot} {W : Bool → WX} (c : Cok pg M g k N X sc hot W) (e : E) (xx : Xx) : WMono (wpE pg g xx e) := fun _ _ _ _ _ _ q x z => wpE_mono c.G.mono e q x z
theorem Cok.esmono {X : Cx} {sc : Scope} {hot : Hot} {W : Bool → WX} (c : Cok pg M g k N X sc hot W) (e : Es) (xx : Xx) (σ : SA) (h : Hh) (Q Q' : QL) (Y Y' : XQ) (q : ∀ a h, Q a h → Q' a h) (x : XLe Y Y') (z : wpEs pg g xx e σ h Q Y) : wpEs pg g xx e σ h Q' Y' := wpEs_mono c.G.mono e q x z
/-- the context's own names -/
theorem Cok.gl {X : Cx} {sc : Scope} {hot : Hot} {W : Bool → WX} (c : Cok pg M g k N X sc hot W) {x : PySem.Str} (h : Gsc sc x) : Gl X x := by
  unfold Gl Env.kindOf
  rw [c.hsc]
  exact h
theorem XLe.refl (X : XQ) : XLe X X := fun _ _ _ _ z => z
/-- one operation behind two parts -/
theorem two {X : Cx} {sc : Scope} {hot : Hot} {W : Bool → WX} (c : Cok pg M g k N X sc hot W) {a b : E} {f : A → A → Hh → QV → Prop} (fm : ∀ x y h Q Q', QLe Q Q' → f x y h Q → f x y h Q') {σ : L2.St} {H : Hp} {Q : VK}
    (z : Lf M pg hot xh W (fun xx σ h Q X => wpE pg g xx a σ h (fun x h1 => wpE pg g xx b σ h1 (fun y h2 => f x y h2 Q) X) X) σ H Q) :
    tOp (l2 M f) (Lf M pg hot xh W fun xx => wpE pg g xx a) (Lf M pg hot xh W fun xx => wpE pg g xx b) σ H Q := by
  obtain ⟨ρ, h, σa, xx, r, w⟩ := z
  refine Lf.of (c.emono a) r w (XLe.refl _) fun x h1 ρ1 H1 v p1 m1 r1 v1 w1 => ?_
  refine Lf.of (c.emono b) r1 w1 (UpX.mono p1 m1) fun y h2 ρ2 H2 u p2 m2 r2 v2 w2 => ?_
  exact ⟨ρ2, h2, x, y, r2.hr, v1.mono p2 m2, v2, fm _ _ _ _ _ (Up.mono (p1.trans p2) (m1.trans m2)) w2⟩
/-- a value that is a truth -/
theorem UpB.of {ρ : List Addr} {H : Hp} {Q : Bool → Hp → Prop} : ∀ a h, (∃ b, a = A.bl b ∧ UpB M ρ H Q b h) → Up M ρ H (fun x H1 => ∃ b, x = V.bl b ∧ Q b H1) a h := by
  rintro a h ⟨b, rfl, q⟩ ρ' H' v p m hr vr
  cases vr
  exact ⟨b, rfl, q ρ' H' p m hr⟩
theorem dflt {ρ : List Addr} {H : Hp} : ∀ n : Nat, VRs M ρ H (List.replicate n .non) (List.replicate n .non)
  | 0 => .nil
  | n + 1 => .cons .non (dflt n)
theorem dvals : ∀ n : Nat, Vals (List.replicate n V.non) (List.replicate n Value.none)
  | 0 => .nil
  | n + 1 => .cons rfl (dvals n)
theorem clsV_pe {X : Cx} {sc : Scope} {hot : Hot} {W : Bool → WX} (c : Cok pg M g k N X sc hot W) {s : String} {p : Pos} (h1 : Gsc sc (st s)) (h2 : (st s == ("__debug__" : PySem.Str)) = false) {v : V} {u : Value} (e : clsV M s = some (v, u)) : PE X (.Name (st s) p) (tC v) ∧ ClsV v u := by
  unfold clsV at e
  cases q : M.cl s with
  | some a =>
    rw [q] at e
    cases e
    exact ⟨pe_glob (c.gl h1) (c.G.cls _ _ q) rfl h2, .own a⟩
  | none =>
    rw [q] at e
    by_cases hm : s ∈ btypes
    · simp only [if_pos hm] at e
      cases e
      refine ⟨?_, .ty s⟩
      simp only [btypes, List.mem_cons, List.not_mem_nil, or_false] at hm
      rcases hm with rfl | rfl | rfl | rfl | rfl | rfl | rfl
      · exact pe_bltn (v := .ty "bool") (c.gl h1) (c.G.blt "bool" (by decide)) PyProof.Rows.boot_bool rfl (by decide) h2
      · exact pe_bltn (v := .ty "int") (c.gl h1) (c.G.blt "int" (by decide)) PyProof.Rows.boot_int rfl (by decide) h2
      · exact pe_bltn (v := .ty "str") (c.gl h1) (c.G.blt "str" (by decide)) PyProof.Rows.boot_str rfl (by decide) h2
      · exact pe_bltn (v := .ty "list") (c.gl h1) (c.G.blt "list" (by decide)) PyProof.Rows.boot_list rfl (by decide) h2
      · exact pe_bltn (v := .ty "tuple") (c.gl h1) (c.G.blt "tuple" (by decide)) PyProof.Rows.boot_tuple rfl (by decide) h2
      · exact pe_bltn (v := .ty "dict") (c.gl h1) (c.G.blt "dict" (by decide)) PyProof.Rows.boot_dict rfl (by decide) h2
      · exact pe_bltn (v := .ty "ValueError") (u := .type "ValueError") (c.gl h1) c.G.bve (by decide +kernel) rfl (by decide) h2
    · simp only [if_neg hm] at e
      cases e
theorem kind_tyx {X : Cx} {sc : Scope} {hot : Hot} {W : Bool → WX} (c : Cok pg M g k N X sc hot W) {ρ : List Addr} {h : Hh} {H : Hp} {a : A} {x : V} {kd : String} (hr : HR M ρ h H) (va : VR M ρ H a x) (e : kindA h a = some kd) :
    (kd ∈ bkinds ∧ TyX X.K H x (.type kd)) ∨ ∃ Ca, M.cl kd = some Ca ∧ TyX X.K H x (.ref Ca) := by
  cases va with
  | non => cases e; exact .inl ⟨by decide, .base .non⟩
  | bl b => cases e; exact .inl ⟨by decide, .base (.bl b)⟩
  | int i => cases e; exact .inl ⟨by decide, .base (.int i)⟩
  | str z => cases e; exact .inl ⟨by decide, .base (.str z)⟩
  | tup q r => cases e; exact .inl ⟨by decide, .base (.tup q)⟩
  | fro q r =>
    cases e
    refine .inl ⟨by decide, ?_⟩
    rcases q with ⟨o, q⟩ | (q | ⟨o, q⟩) | ⟨o, its, n, q, c1, _⟩
    · exact .base (.frz q)
    · cases q
    · cases q
    · exact .kList (by rw [← c.hK]; exact q) c1
  | kt q r =>
    cases e
    refine .inl ⟨by decide, ?_⟩
    rcases q with ⟨(q | ⟨o, q⟩) | ⟨o, its, n, q, c1, _⟩, _⟩ | ⟨o, q, _⟩
    · cases q
    · cases q
    · exact .kTuple (by rw [← c.hK]; exact q) c1
    · exact .fTuple q
  | ref q =>
    obtain ⟨o, ho, ro⟩ := hr.is q
    simp only [kindA, ho] at e
    cases ro with
    | lst q r => cases e; exact .inl ⟨by decide, .base (.lst q)⟩
    | dK q r => cases e; exact .inl ⟨by decide, .base (.dK q)⟩
    | dT q r => cases e; exact .inl ⟨by decide, .base (.dT q)⟩
    | ins ob cl q r =>
      cases e
      obtain ⟨h1, h2, h3, h4, h5⟩ := c.G.obj _ _ ob cl
      rw [c.hK] at h1 h2 h3 h4 h5
      exact .inr ⟨_, cl, .base (.ins q h1 h2 h3 h4 h5)⟩
  | fn q => cases e
theorem takes_no {X : Cx} (b : Bool) : TakesB b X (fun _ _ _ _ => False) := by
  cases b with
  | true =>
    intro u s' z
    obtain ⟨_, _, _, _, _, _, _, _, _, _, _, _, _, _, _, _, f⟩ := z
    exact f.elim
  | false =>
    intro u s' z
    obtain ⟨_, _, _, _, _, _, _, _, _, _, _, _, _, _, _, _, f⟩ := z
    exact f.elim
/-- a comprehension's block -/
theorem Cok.blk {X : Cx} {sc : Scope} {W : Bool → WX} (c : Cok pg M g k N X sc none W) (s : Shared) (H : Hp) (scope : Scope) (C : Addr) (cl : List (PySem.Str × Addr)) (fp : List Addr) :
    Cok pg M g k N (X.blk s H scope (compEnvC scope cl C X.env) fp) (relS scope sc) none (fun _ _ _ _ _ => False) where
  hN := c.hN
  nd := c.nd
  hK := c.hK
  hsc := by
    rw [← c.hsc]
    rfl
  gd := c.gd
  un := c.un
  tk := takes_no
  G := c.G
  calm := c.calm
/-- isinstance's classes, one or several -/
theorem TCs.rel {X : Cx} {sc : Scope} {hot : Hot} {W : Bool → WX} (c : Cok pg M g k N X sc hot W) : ∀ {cs : List String} {es : List Expr}, TCs sc cs es → (∀ s ∈ cs, (clsV M s).isSome = true) → ∃ vs us, PA X es (fun _ H Q => Q vs H) ∧ Paired ClsV vs us ∧ Paired (fun s u => ∃ v, clsV M s = some (v, u)) cs us ∧ es.all noStar = true ∧ vs.length = es.length
  | _, _, .nil, _ => ⟨[], [], pa_nil, .nil, .nil, rfl, rfl⟩
  | s :: cs, _, .cons h1 h2 t, hc => by
    obtain ⟨vs, us, p, q, r, n, l⟩ := TCs.rel c t fun s m => hc s (List.mem_cons_of_mem _ m)
    obtain ⟨⟨v, u⟩, e⟩ := Option.isSome_iff_exists.mp (hc s List.mem_cons_self)
    obtain ⟨p1, q1⟩ := clsV_pe c h1 h2 e
    exact ⟨v :: vs, u :: us, PA.imp (pa_cons p1 p (star_cons rfl)) fun σ H Q z => z, .cons q1 q, .cons ⟨v, e⟩ r, by rw [List.all_cons, n]; rfl, congrArg Nat.succ l⟩
theorem kit_any {K : PySem.W.Frag} {t : Value} {f : String → Bool} : ∀ {cs : List String} {us : List Value}, Paired (fun s u => PySem.W.kitOne K t u = some (f s)) cs us → PySem.W.kitAny K t us = some (cs.any f)
  | _, _, .nil => kitAny_nil
  | s :: cs, _, .cons h r => by
    have i := kit_any r
    refine kitAny_cons (b := f s) h (fun z => ?_) fun z => ?_
    · rw [i, List.any_cons, z]
      rfl
    · rw [List.any_cons, z]
      rfl
end
end Z

/-! ### what an expression's term asks is enough: all of them -/
namespace Z
open PySem PySem.Spec PyProof.Rows L2
section
variable {pg : Pg} {M : Ad} {g : Fid → GQ} {k : Nat} {N : List PySem.Str}
/-- a function of the built-in ones -/
theorem s_blt {X : Cx} {sc : Scope} {hot : Hot} {W : Bool → WX} {f : Bf} {x : Expr} {xs : List Expr} {t : L2.TA} {p pos : Pos} (c : Cok pg M g k N X sc hot W) (hc : f.calm = true → hot = none) (hk : f.known = true) (hg : Gsc sc (st f.nm)) (ha : PA X (x :: xs) t) (hs : (x :: xs).all noStar = true) :
    PE X (.Call (.Name (st f.nm) p) (x :: xs) [] pos) (tCB (lL M (bltW f)) t) := by
  rw [List.all_cons, Bool.and_eq_true] at hs
  have h1 := star_cons (es := xs) (env := X.env) hs.1
  have h2 := back_any (env := X.env) (pos := pos) hs.2
  have hcm : f.calm = true → X.calm = true := fun z => (c.calm (hc z)).1
  have hu := c.un
  cases f <;> first
    | (cases hk; done)
    | exact pe_callB (cb_len c.hK) (c.gl hg) (c.G.blt "len" (by decide)) PySem.boot_len ha (by decide) (by decide) h1 h2
    | exact pe_callB (cb_max (hcm rfl)) (c.gl hg) (c.G.blt "max" (by decide)) PyProof.Rows.boot_max ha (by decide) (by decide) h1 h2
    | exact pe_callB (cb_min (hcm rfl)) (c.gl hg) (c.G.blt "min" (by decide)) PyProof.Rows.boot_min ha (by decide) (by decide) h1 h2
    | exact pe_callB cb_divmod (c.gl hg) (c.G.blt "divmod" (by decide)) PyProof.Rows.boot_divmod ha (by decide) (by decide) h1 h2
    | exact pe_callB (cb_sum (hcm rfl)) (c.gl hg) (c.G.blt "sum" (by decide)) PyProof.Rows.boot_sum ha (by decide) (by decide) h1 h2
    | exact pe_callB (cb_any (hcm rfl)) (c.gl hg) (c.G.blt "any" (by decide)) PyProof.Rows.boot_any ha (by decide) (by decide) h1 h2
    | exact pe_callB (cb_all (hcm rfl)) (c.gl hg) (c.G.blt "all" (by decide)) PyProof.Rows.boot_all ha (by decide) (by decide) h1 h2
    | exact pe_callB (cb_sorted (hcm rfl)) (c.gl hg) (c.G.blt "sorted" (by decide)) PyProof.Rows.boot_sorted ha (by decide) (by decide) h1 h2
    | exact pe_callB (cb_repr c.hK c.gd (by omega)) (c.gl hg) (c.G.blt "repr" (by decide)) PyProof.Rows.boot_repr ha (by decide) (by decide) h1 h2
    | exact pe_callTy (cb_list (hcm rfl) c.hK) (c.gl hg) (c.G.blt "list" (by decide)) PyProof.Rows.boot_list ha (by decide) (by decide) h1 h2
    | exact pe_callTy (cb_tuple c.hK) (c.gl hg) (c.G.blt "tuple" (by decide)) PyProof.Rows.boot_tuple ha (by decide) (by decide) h1 h2
    | exact pe_callTy cb_int (c.gl hg) (c.G.blt "int" (by decide)) PyProof.Rows.boot_int ha (by decide) (by decide) h1 h2
    | exact pe_callTy cb_str (c.gl hg) (c.G.blt "str" (by decide)) PyProof.Rows.boot_str ha (by decide) (by decide) h1 h2
theorem kind_tyV {ρ : List Addr} {h : Hh} {H : Hp} {a : A} {x : V} {K : PySem.W.Frag} (hK : M.K = K) (hr : HR M ρ h H) (va : VR M ρ H a x) {T : String} (e : kindA h a = some T) (hT : T = "list" ∨ T = "str" ∨ T = "dict") (hn : M.ob T = false) : tyV K T x H := by
  subst hK
  cases va with
  | str z => cases e; exact rfl
  | fro q r => cases e; exact .inl ⟨rfl, _, q.sq⟩
  | ref q =>
    obtain ⟨o, ho, ro⟩ := hr.is q
    simp only [kindA, ho] at e
    cases ro with
    | lst q r => cases e; exact .inl ⟨rfl, _, SqL.of q⟩
    | dK q r => cases e; exact .inr (.inr (.inl ⟨rfl, .inl ⟨_, q⟩⟩))
    | dT q r => cases e; exact .inr (.inr (.inl ⟨rfl, .inr ⟨_, q⟩⟩))
    | ins ob cl q r =>
      cases e
      rw [ob] at hn
      cases hn
  | _ => cases e <;> (rcases hT with z | z | z <;> exact absurd z (by decide))
end
end Z

/-! ### what an expression's term asks is enough: all of them, by its parts -/
namespace Z
open PySem PySem.Spec PyProof.Rows L2
section
variable {pg : Pg} {M : Ad} {g : Fid → GQ} {k : Nat} {N : List PySem.Str}
theorem TEs.len {hot : Hot} {sc : Scope} : ∀ {as : Es} {xs : List Expr}, TEs N hot sc as xs → as.len = xs.length
  | _, _, .nil => rfl
  | _, _, .cons _ q => congrArg Nat.succ (TEs.len q)
theorem wpEs_len {pg : Pg} {g : Fid → GQ} (hg : GMono g) {xx : Xx} : ∀ (as : Es) {σ : SA} {h : Hh} {Q : QL} {Y : XQ}, wpEs pg g xx as σ h Q Y → wpEs pg g xx as σ h (fun xs h1 => xs.length = as.len ∧ Q xs h1) Y
  | .nil, _, _, _, _, z => ⟨rfl, z⟩
  | .cons a as, _, _, _, _, z => by
    refine wpE_mono hg a (fun _ _ w => ?_) (fun _ _ _ _ y => y) z
    refine wpEs_mono hg as (fun _ _ w => ?_) (fun _ _ _ _ y => y) (wpEs_len hg as w)
    exact ⟨congrArg Nat.succ w.1, w.2⟩
theorem paired_mem {α β : Type} {R R' : α → β → Prop} {as : List α} {bs : List β} (f : ∀ a b, a ∈ as → R a b → R' a b) (h : Paired R as bs) : Paired R' as bs := by
  induction h with
  | nil => exact .nil
  | cons p _ ih => exact .cons (f _ _ List.mem_cons_self p) (ih fun a b m => f a b (List.mem_cons_of_mem _ m))
theorem KR.putK {M : Ad} {ρ : List Addr} {H : Hp} {κ : Type} [DecidableEq κ] {k : κ} {x : A} {v : V} (e : VR M ρ H x v) {kvs : List (κ × A)} {ws : List (κ × V)} (r : KR M ρ H kvs ws) : KR M ρ H (putD k x kvs) (L2.putK ws k v) := by
  have h1 : (kvs.any fun p => decide (p.1 = k)) = (ws.any fun p => decide (p.1 = k)) := by
    induction r with
    | nil => rfl
    | cons p _ ih => rw [List.any_cons, List.any_cons, ih, p.1]
  have h2 : KR M ρ H (kvs.map fun p => if p.1 = k then (p.1, x) else p) (ws.map fun p => if p.1 = k then (p.1, v) else p) := by
    clear h1
    induction r with
    | nil => exact .nil
    | @cons a b as bs p _ ih =>
      rw [List.map_cons, List.map_cons]
      refine .cons ?_ ih
      obtain ⟨a1, a2⟩ := a
      obtain ⟨b1, b2⟩ := b
      obtain ⟨p1, p2⟩ := p
      simp only at p1 p2
      subst p1
      by_cases z : b1 = k
      · simp only [if_pos z]
        exact ⟨trivial, e⟩
      · simp only [if_neg z]
        exact ⟨trivial, p2⟩
  have h3 : KR M ρ H (kvs ++ [(k, x)]) (ws ++ [(k, v)]) := by
    clear h1 h2
    induction r with
    | nil => exact .cons ⟨rfl, e⟩ .nil
    | cons p _ ih => exact .cons p ih
  unfold putD L2.putK
  rw [h1]
  by_cases z : (ws.any fun p => decide (p.1 = k)) = true
  · rw [if_pos z, if_pos z]
    exact h2
  · rw [if_neg z, if_neg z]
    exact h3
abbrev LE (M : Ad) (pg : Pg) (g : Fid → GQ) (hot : Hot) (xh : Xh) (W : Bool → WX) (c : E) : L2.TE := Lf M pg hot xh W fun xx => wpE pg g xx c
abbrev LEs (M : Ad) (pg : Pg) (g : Fid → GQ) (hot : Hot) (xh : Xh) (W : Bool → WX) (c : Es) : L2.TA := LfL M pg hot xh W fun xx => wpEs pg g xx c
abbrev LB (M : Ad) (pg : Pg) (g : Fid → GQ) (hot : Hot) (xh : Xh) (W : Bool → WX) (c : E) : L2.TT := LfB M pg hot xh W fun xx => wpB pg g xx c
abbrev LI (M : Ad) (pg : Pg) (g : Fid → GQ) (hot : Hot) (xh : Xh) (W : Bool → WX) (c : I) : L2.TI := LfI M pg hot xh W fun xx => wpI pg g xx c
section
variable {X : Cx} {sc : Scope} {hot : Hot} {W : Bool → WX} {xh : Xh} (c : Cok pg M g k N X sc hot W)
include c
theorem e_var {i : Nat} {x : PySem.Str} {pos : Pos} (h1 : N[i]? = some x) (h2 : Vis sc x) (h3 : (x == ("__debug__" : PySem.Str)) = false) (h4 : (x == ("__classdict__" : PySem.Str)) = false) : PE X (.Name x pos) (LE M pg g hot xh W (.var i)) := by
  refine PE.imp (pe_var (by rw [c.hN]; exact h1) (by rw [c.hsc]; exact h2) h3 h4) fun σ H Q z => ?_
  obtain ⟨ρ, h, σa, xx, r, v, e, q⟩ := z
  obtain ⟨y, ey, vr⟩ := r.sr.get e
  exact ⟨y, ey, q.now r.hr vr⟩
theorem e_cst {e : Expr} {a : A} {v : V} (p : PE X e (tC v)) (q : ∀ ρ H, VR M ρ H a v) : PE X e (LE M pg g hot xh W (.cst a)) := by
  refine PE.imp p fun σ H Q z => ?_
  obtain ⟨ρ, h, σa, xx, r, w⟩ := z
  exact Up.now w r.hr (q _ _)
theorem e_glob {x : String} {pos : Pos} (h1 : Gsc sc (st x)) (h2 : (st x == ("__debug__" : PySem.Str)) = false) : PE X (.Name (st x) pos) (LE M pg g hot xh W (.glob x)) := by
  constructor
  intro pins s σ H Q I z
  obtain ⟨ρ, h, σa, xx, r, v, e, w⟩ := z
  obtain ⟨u, v', m, rv, q⟩ := c.G.con _ _ e
  exact (pe_glob (c.gl h1) m rv h2).run pins s σ H Q I (Up.now w r.hr (q _ _))
theorem e_fnv {x : String} {pos : Pos} (h1 : Gsc sc (st x)) (h2 : (st x == ("__debug__" : PySem.Str)) = false) : PE X (.Name (st x) pos) (LE M pg g hot xh W (.fnv x)) := by
  constructor
  intro pins s σ H Q I z
  obtain ⟨ρ, h, σa, xx, r, fn, e, w⟩ := z
  obtain ⟨f, hf, hm⟩ := c.G.fa _ _ e
  exact (pe_glob (v := .ref f) (c.gl h1) hm rfl h2).run pins s σ H Q I (Up.now w r.hr (.fn hf))
theorem e_tup {as : Es} {xs : List Expr} {n : Nat} {pos : Pos} (p : PA X xs (LEs M pg g hot xh W as)) : PE X (.Tuple xs n pos) (LE M pg g hot xh W (.tup as)) := by
  refine PE.imp (pe_tup p) fun σ H Q z => ?_
  obtain ⟨ρ, h, σa, xx, r, w⟩ := z
  refine LfL.of (c.esmono as) r w (XLe.refl _) fun ys h1 ρ1 H1 vs p1 m1 r1 v1 w1 => ?_
  exact ⟨by rw [← v1.length]; exact w1.1, fun q nq => Up.tup (Up.mono p1 m1 _ _ w1.2) r1.hr nq v1⟩
theorem e_lst {as : Es} {xs : List Expr} {pos : Pos} (p : PA X xs (LEs M pg g hot xh W as)) : PE X (.List xs pos) (LE M pg g hot xh W (.lst as)) := by
  refine PE.imp (pe_lst p) fun σ H Q z => ?_
  obtain ⟨ρ, h, σa, xx, r, w⟩ := z
  refine LfL.of (c.esmono as) r w (XLe.refl _) fun ys h1 ρ1 H1 vs p1 m1 r1 v1 w1 => ?_
  exact ⟨by rw [← v1.length]; exact w1.1, fun q nq => Up.lst (show new h1 (.lst ys) (Up M ρ1 H1 Q) from Up.mono p1 m1 _ _ w1.2) r1.hr nq v1⟩
theorem e_dnew {t : Bool} {pos : Pos} : PE X (.Dict [] [] pos) (LE M pg g hot xh W (.dnew t)) := by
  cases t with
  | false =>
    refine PE.imp pe_dnewK fun σ H Q z => ?_
    obtain ⟨ρ, h, σa, xx, r, w⟩ := z
    intro p np
    have m : Mo M.K H (upd H p (.dK [])) := Mo.new np
    refine w (ρ ++ [p]) _ _ (List.prefix_append _ _) m (r.hr.new np (.dK upd_same .nil)) (.ref ?_)
    rw [← r.hr.len, List.getElem?_append_right (Nat.le_refl _), Nat.sub_self]
    rfl
  | true =>
    refine PE.imp pe_dnewT fun σ H Q z => ?_
    obtain ⟨ρ, h, σa, xx, r, w⟩ := z
    intro p np
    have m : Mo M.K H (upd H p (.dT [])) := Mo.new np
    refine w (ρ ++ [p]) _ _ (List.prefix_append _ _) m (r.hr.new np (.dT upd_same .nil)) (.ref ?_)
    rw [← r.hr.len, List.getElem?_append_right (Nat.le_refl _), Nat.sub_self]
    rfl
theorem e_blt {f : Bf} {a : E} {as : Es} {x : Expr} {xs : List Expr} {p pos : Pos} (hc : f.calm = true → hot = none) (hk : f.known = true) (hg : Gsc sc (st f.nm)) (pa : PA X (x :: xs) (LEs M pg g hot xh W (.cons a as))) (hs : (x :: xs).all noStar = true) :
    PE X (.Call (.Name (st f.nm) p) (x :: xs) [] pos) (LE M pg g hot xh W (.blt f (.cons a as))) := by
  refine PE.imp (s_blt c hc hk hg pa hs) fun σ H Q z => ?_
  obtain ⟨ρ, h, σa, xx, r, w⟩ := z
  refine LfL.of (c.esmono (.cons a as)) r w (XLe.refl _) fun ys h1 ρ1 H1 vs p1 m1 r1 v1 w1 => ?_
  exact ⟨ρ1, h1, ys, r1.hr, v1, bltW_mono (Up.mono p1 m1) w1⟩
theorem e_fld {o : E} {f : String} {x : Expr} {pos : Pos} (p : PE X x (LE M pg g hot xh W o)) (hb : attributeBase x (st f) X.env (eval x X.env) = eval x X.env) : PE X (.Attribute x (st f) pos) (LE M pg g hot xh W (.fld o f)) := by
  refine PE.imp (pe_fld p hb) fun σ H Q z => ?_
  obtain ⟨ρ, h, σa, xx, r, w⟩ := z
  refine Lf.of (c.emono o) r w (XLe.refl _) fun y h1 ρ1 H1 v p1 m1 r1 v1 w1 => ?_
  obtain ⟨n, C, fs, u, rfl, h2, h3, h4, q⟩ := w1
  cases v1 with
  | ref e =>
    have z := r1.hr.ob _ _ _ e h2
    cases z with
    | ins ob cl q1 q2 =>
      obtain ⟨b1, _⟩ := c.G.obj _ _ ob cl
      obtain ⟨v, lv, rv⟩ := q2.lookup h4
      refine ⟨_, _, _, _, v, rfl, q1, c.hK ▸ b1, c.hK ▸ c.G.na _ _ _ cl h3, lv, q _ _ _ p1 m1 r1.hr rv⟩
theorem e_isi {a : E} {cs : List String} {x cl : Expr} {p pos : Pos} (hg : Gsc sc ("isinstance" : PySem.Str)) (pe : PE X x (LE M pg g hot xh W a)) (hx : noStar x = true) (hcl : TCl sc cs cl) : PE X (.Call (.Name ("isinstance" : PySem.Str) p) [x, cl] [] pos) (LE M pg g hot xh W (.isi a cs)) := by
  by_cases hcn : cs.all pg.cn = true
  · have hall : ∀ s ∈ cs, (clsV M s).isSome = true := fun s m => c.G.cn s (List.all_eq_true.mp hcn s m)
    have kits : ∀ {us : List Value} {ρ : List Addr} {h : Hh} {H : Hp} {y : A} {v : V} {kd : String}, HR M ρ h H → VR M ρ H y v → kindA h y = some kd → Paired (fun s u => ∃ v, clsV M s = some (v, u)) cs us → ∃ t, TyX X.K H v t ∧ PySem.W.kitAny X.K t us = some (cs.any (isB pg kd)) := by
      intro us ρ h H y v kd hr vr hk pr
      rcases kind_tyx c hr vr hk with ⟨hb, ty⟩ | ⟨Ca, hcl, ty⟩
      · exact ⟨_, ty, kit_any (paired_mem (fun s u hs ⟨w, e⟩ => c.hK ▸ c.G.kitB kd s w u (List.all_eq_true.mp hcn s hs) hb e) pr)⟩
      · exact ⟨_, ty, kit_any (paired_mem (fun s u hs ⟨w, e⟩ => c.hK ▸ c.G.kit kd Ca s w u (List.all_eq_true.mp hcn s hs) hcl e) pr)⟩
    cases hcl with
    | @one cc _ h1 =>
      obtain ⟨vs, us, pa, pv, pr, hn, _⟩ := TCs.rel c h1 hall
      cases pr with
      | @cons _ u _ _ e0 t0 =>
        cases t0
        cases pv with
        | @cons v _ _ _ k0 t1 =>
          cases t1
          rw [List.all_cons, List.all_nil, Bool.and_true] at hn
          have pa2 : PA X [x, cl] (tCons (LE M pg g hot xh W a) fun _ H Q => Q [v] H) := pa_cons pe pa (star_cons hx)
          refine PE.imp (pe_callB call_isi (c.gl hg) (c.G.blt "isinstance" (by decide)) PyProof.Rows.boot_isinstance pa2 (by decide) (by decide) (star_cons hx) (back_any (by rw [List.all_cons, hn]; rfl))) fun σ H Q z => ?_
          obtain ⟨ρ, h, σa, xx, r, _, w⟩ := z
          refine Lf.of (c.emono a) r w (XLe.refl _) fun y h1 ρ1 H1 v1 p1 m1 r1 vr w1 => ?_
          obtain ⟨kd, hk, q⟩ := w1
          obtain ⟨t, ty, ka⟩ := kits r1.hr vr hk (.cons e0 .nil)
          refine ⟨_, _, t, u, _, rfl, k0, ty, ?_, q _ _ _ p1 m1 r1.hr (.bl _)⟩
          have z2 : PySem.W.kitAny X.K t [u] = some ([cc].any (isB pg kd)) := ka
          unfold PySem.W.kitAny at z2
          cases kk : PySem.W.kitOne X.K t u with
          | none => rw [kk] at z2; cases z2
          | some b =>
            rw [kk] at z2
            cases b with
            | true => exact z2
            | false => exact z2
    | @many _ es kk tq h1 hlen =>
      obtain ⟨vs, us, pa, pv, pr, hn, hl⟩ := TCs.rel c h1 hall
      have pa2 : PA X [x, .Tuple es kk tq] (tCons (LE M pg g hot xh W a) (tCons (tTup fun _ H Q => Q vs H) tNil)) := pa_cons pe (pa_cons (pe_tup pa) pa_nil (star_cons rfl)) (star_cons hx)
      refine PE.imp (pe_callB call_isiT (c.gl hg) (c.G.blt "isinstance" (by decide)) PyProof.Rows.boot_isinstance pa2 (by decide) (by decide) (star_cons hx) (back_any rfl)) fun σ H Q z => ?_
      obtain ⟨ρ, h, σa, xx, r, _, w⟩ := z
      refine Lf.of (c.emono a) r w (XLe.refl _) fun y h1 ρ1 H1 v1 p1 m1 r1 vr w1 => ?_
      obtain ⟨kd, hk, q⟩ := w1
      refine ⟨?_, fun tp ntp => ?_⟩
      · rw [hl]
        exact Nat.le_trans hlen (by decide)
      · have mo : Mo M.K H1 (upd H1 tp (.tup vs)) := Mo.new ntp
        obtain ⟨t, ty, ka⟩ := kits (r1.hr.other ntp) (vr.mono (List.prefix_refl _) mo) hk pr
        exact ⟨_, tp, vs, t, us, _, rfl, upd_same, pv, ty, ka, q _ _ _ p1 (m1.trans mo) (r1.hr.other ntp) (.bl _)⟩
  · refine ⟨fun pins s σ H Q I z => ?_⟩
    obtain ⟨ρ, h, σa, xx, r, e, w⟩ := z
    exact absurd e hcn
end
section
variable {X : Cx} {sc : Scope} {W : Bool → WX} {xh : Xh} (c : Cok pg M g k N X sc none W)
include c
theorem e_call {f : String} {as : Es} {xs : List Expr} {p pos : Pos} (h1 : Gsc sc (st f)) (h2 : (st f == ("__debug__" : PySem.Str)) = false) (t : TEs N none sc as xs) (pa : PA X xs (LEs M pg g none xh W as)) : PE X (.Call (.Name (st f) p) xs [] pos) (LE M pg g none xh W (.call f as)) := by
  by_cases ok : ∃ fn, pg.d f = some fn ∧ as.len ≤ fn.ps.length ∧ fn.ps.length ≤ as.len + fn.df
  · obtain ⟨fn, hd, hle, hl⟩ := ok
    obtain ⟨f', fd, hm, hk, hb, F⟩ := c.G.d _ _ hd
    have hr := (c.calm rfl).2
    rw [c.hK] at hk hb F
    have hbj := hb (fn.ps.length - as.len) (by omega)
    cases t with
    | nil =>
      refine PE.imp (pe_callZ0 F c.gd (hr.mono (by omega)) (c.gl h1) hm hk hbj (dvals _) c.tk h2) fun σ H Q z => ?_
      obtain ⟨ρ, h, σa, xx, r, fn', e, _, _, w⟩ := z
      rw [hd] at e
      cases e
      exact ⟨ρ, h, _, by rw [List.length_replicate]; rfl, r.hr, dflt _, w⟩
    | @cons _ _ a as x xs t1 t2 =>
      refine PE.imp (pe_callZ F c.gd (hr.mono (by omega)) (c.gl h1) hm hk hbj (dvals _) c.tk pa (TEs.star (.cons t1 t2)) h2) fun σ H Q z => ?_
      obtain ⟨ρ, h, σa, xx, r, fn', e, _, _, w⟩ := z
      rw [hd] at e
      cases e
      refine LfL.of (c.esmono (.cons a as)) r (wpEs_len c.G.mono _ w) (XLe.refl _) fun ys h1 ρ1 H1 vs p1 m1 r1 v1 w1 => ?_
      refine ⟨ρ1, h1, _, ?_, r1.hr, v1.append (dflt _), c.G.mono _ _ _ _ _ _ _ (Up.mono p1 m1) (UpX.mono p1 m1) w1.2⟩
      rw [List.length_append, List.length_replicate, w1.1]
      omega
  · constructor
    intro pins s σ H Q I z
    obtain ⟨ρ, h, σa, xx, r, fn', e, e2, e3, w⟩ := z
    exact absurd ⟨fn', e, e2, e3⟩ ok
theorem e_callv {i : Nat} {x : PySem.Str} {a : E} {as : Es} {y : Expr} {ys : List Expr} {p pos : Pos} (h1 : N[i]? = some x) (h2 : Vis sc x) (h3 : (x == ("__debug__" : PySem.Str)) = false) (h4 : (x == ("__classdict__" : PySem.Str)) = false) (hs : (y :: ys).all noStar = true) (pa : PA X (y :: ys) (LEs M pg g none xh W (.cons a as))) :
    PE X (.Call (.Name x p) (y :: ys) [] pos) (LE M pg g none xh W (.callv i (.cons a as))) := by
  constructor
  intro pins s σ H Q I z
  obtain ⟨ρ, h, σa, xx, r, f, fn, es, ed, el, w⟩ := z
  obtain ⟨fa, hfa, hmg⟩ := c.G.fa _ _ ed
  obtain ⟨f', fd, hm, hk, hb, F⟩ := c.G.d _ _ ed
  rw [hmg] at hm
  cases hm
  have hr := (c.calm rfl).2
  rw [c.hK] at hk hb F
  have hb0 := hb 0 (Nat.zero_le _)
  obtain ⟨v, ev, vr⟩ := r.sr.get es
  cases vr with
  | @fn _ a2 e2 =>
    rw [hfa] at e2
    cases e2
    rw [List.all_cons, Bool.and_eq_true] at hs
    refine wpAny_Call_Name_kw (thn ((pe_var (pos := p) (by rw [c.hN]; exact h1) (by rw [c.hsc]; exact h2) h3 h4).run pins s σ H (fun v H1 => v = .ref fa ∧ H1 = H) I ⟨.ref fa, ev, rfl, rfl⟩) fun u s1 ⟨v, H1, I1, r1, q1⟩ => ?_)
    obtain ⟨rfl, rfl⟩ := q1
    cases r1
    refine PySem.W.callWith_K (h₀ := X.base) I.ok.mod.kin hk (thn (pa.run pos pins s1 σ _ (fun vs H2 => spOf M (g (.d f)) fn.ps.length (vs ++ []) H2 Q fun b cls d H' => W b cls d σ H') I1 ?_) fun us s2 ⟨vs, H2, I2, r2, q⟩ => ⟨I2.kIn, run_fnZ F c.gd (hr.mono (by omega)) hb0 (dvals 0) c.tk I2 r2 q⟩) (star_cons hs.1) (back_any hs.2)
    refine LfL.of (c.esmono (.cons a as)) r (wpEs_len c.G.mono _ w) (XLe.refl _) fun ys h1 ρ1 H1 vs p1 m1 r1 v1 w1 => ?_
    rw [List.append_nil]
    exact ⟨ρ1, h1, _, w1.1.trans el, r1.hr, v1, c.G.mono _ _ _ _ _ _ _ (Up.mono p1 m1) (UpX.mono p1 m1) w1.2⟩
theorem e_mk {C : String} {as : Es} {xs : List Expr} {p pos : Pos} (h1 : Gsc sc (st C)) (h2 : (st C == ("__debug__" : PySem.Str)) = false) (t : TEs N none sc as xs) (pa : PA X xs (LEs M pg g none xh W as)) : PE X (.Call (.Name (st C) p) xs [] pos) (LE M pg g none xh W (.mk C as)) := by
  by_cases ok : ∃ fn, pg.m C "__init__" = some fn ∧ as.len + 1 ≤ fn.ps.length ∧ fn.ps.length ≤ as.len + 1 + fn.df
  · obtain ⟨fn, hd, hle, hl⟩ := ok
    obtain ⟨ob, Ca, f', fd, hcl, hmk, hb, F⟩ := c.G.i _ _ hd
    have hr := (c.calm rfl).2
    rw [c.hK] at hmk hb F
    have hbj := hb (fn.ps.length - 1 - as.len) (by omega)
    have fin : ∀ {ρ : List Addr} {h : Hh} {H : Hp} {Q : VK} {σ : L2.St} {ys : List A} {vs : List V} {x dx : Addr}, HR M ρ h H → VRs M ρ H ys vs → ys.length = as.len → H x = none → H dx = none → dx ≠ x →
        g (.m C "__init__") (.ref h.length :: (ys ++ List.replicate (fn.ps.length - 1 - as.len) .non)) (h ++ [.ins C []]) (fun v h2 => v = .non ∧ Up M ρ H Q (.ref h.length) h2) (UpX M ρ H fun b cls d H' => W b cls d σ H') →
        spOf M (g (.m C "__init__")) fn.ps.length (.ref x :: (vs ++ List.replicate (fn.ps.length - 1 - as.len) .non)) (upd (upd H dx (.own x)) x (.ins Ca dx [])) (fun v H2 => v = .non ∧ Q (.ref x) H2) (fun b cls d H' => W b cls d σ H') := by
      intro ρ h H Q σ ys vs x dx hr0 vr hlen nx ndx ne w
      have m1 : Mo M.K H (upd H dx (.own x)) := Mo.new ndx
      have nx1 : (upd H dx (.own x)) x = none := by rw [upd_ne (Ne.symm ne)]; exact nx
      have m2 : Mo M.K (upd H dx (.own x)) (upd (upd H dx (.own x)) x (.ins Ca dx [])) := Mo.new nx1
      have mm := m1.trans m2
      have hr1 : HR M ρ h (upd H dx (.own x)) := hr0.other ndx
      have hr2 : HR M (ρ ++ [x]) (h ++ [.ins C []]) (upd (upd H dx (.own x)) x (.ins Ca dx [])) := hr1.new nx1 (.ins ob hcl upd_same .nil)
      have pp : ρ <+: ρ ++ [x] := List.prefix_append _ _
      have ex : (ρ ++ [x])[h.length]? = some x := by
        rw [← hr0.len, List.getElem?_append_right (Nat.le_refl _), Nat.sub_self]
        rfl
      refine ⟨ρ ++ [x], _, _, ?_, hr2, .cons (.ref ex) ((vr.mono pp mm).append (dflt _)), c.G.mono _ _ _ _ _ _ _ (fun v h2 z => ?_) (UpX.mono pp mm) w⟩
      · rw [List.length_cons, List.length_append, List.length_replicate, hlen]
        omega
      · intro ρ' H' u p' m' hr' vr'
        obtain ⟨rfl, q⟩ := z
        cases vr'
        exact ⟨rfl, q ρ' H' _ (pp.trans p') (mm.trans m') hr' (.ref (pre_get p' ex))⟩
    cases t with
    | nil =>
      refine PE.imp (pe_makeZ0 hmk F c.gd (hr.mono (by omega)) (c.gl h1) (c.G.cls _ _ hcl) hbj (dvals _) c.tk h2) fun σ H Q z => ?_
      obtain ⟨ρ, h, σa, xx, r, fn', e, _, _, w⟩ := z
      rw [hd] at e
      cases e
      intro x dx nx ndx ne
      exact fin (ys := []) (vs := []) r.hr .nil rfl nx ndx ne w
    | @cons _ _ a as x xs t1 t2 =>
      refine PE.imp (pe_makeZ hmk F c.gd (hr.mono (by omega)) (c.gl h1) (c.G.cls _ _ hcl) hbj (dvals _) c.tk pa (TEs.star (.cons t1 t2)) h2) fun σ H Q z => ?_
      obtain ⟨ρ, h, σa, xx, r, fn', e, _, _, w⟩ := z
      rw [hd] at e
      cases e
      refine LfL.of (c.esmono (.cons a as)) r (wpEs_len c.G.mono _ w) (XLe.refl _) fun ys h1 ρ1 H1 vs p1 m1 r1 v1 w1 => ?_
      intro x dx nx ndx ne
      exact fin r1.hr v1 w1.1 nx ndx ne (c.G.mono _ _ _ _ _ _ _ (fun v h2 z => ⟨z.1, Up.mono p1 m1 _ _ z.2⟩) (UpX.mono p1 m1) w1.2)
  · constructor
    intro pins s σ H Q I z
    obtain ⟨ρ, h, σa, xx, r, fn', e, e2, e3, w⟩ := z
    exact absurd ⟨fn', e, e2, e3⟩ ok
theorem e_meth {o : E} {m : String} {as : Es} {x : Expr} {xs : List Expr} {ap pos : Pos} (po : PE X x (LE M pg g none xh W o)) (hb : attributeBase x (st m) X.env (eval x X.env) = eval x X.env) (t : TEs N none sc as xs) (hl : xs.length < 30) (hp : (ap.endLine == pos.line) = true) (pa : PA X xs (LEs M pg g none xh W as)) :
    PE X (.Call (.Attribute x (st m) ap) xs [] pos) (LE M pg g none xh W (.meth o m as)) := by
  have hr := (c.calm rfl).2
  cases t with
  | nil =>
    refine PE.imp (pe_methZ0 po c.gd c.tk hb hp) fun σ H Q z => ?_
    obtain ⟨ρ, h, σa, xx, r, w⟩ := z
    refine Lf.of (c.emono o) r w (XLe.refl _) fun y h1 ρ1 H1 v p1 m1 r1 v1 w1 => ?_
    obtain ⟨n, C, fs, fn, rfl, h2, h3, h4, h5, h6, h7, q⟩ := w1
    cases v1 with
    | ref e =>
      have z := r1.hr.ob _ _ _ e h2
      cases z with
      | @ins _ Ca dx _ ws ob cl q1 q2 =>
        obtain ⟨hc, f, fd, hm, hbd, F⟩ := c.G.m _ _ _ _ h5 h4 cl
        rw [c.hK] at hc hm hbd F
        refine ⟨_, Ca, dx, ws, _, f, fd, _, _, _, _, rfl, q1, q2.none h3, hc, hm, F, hr.mono (by omega), hbd (fn.ps.length - 1 - Es.nil.len) (by omega), dvals _, ?_⟩
        refine ⟨ρ1, h1, _, ?_, r1.hr, .cons (.ref e) (dflt _), c.G.mono _ _ _ _ _ _ _ (Up.mono p1 m1) (UpX.mono p1 m1) q⟩
        rw [List.length_cons, List.length_replicate]
        have : Es.nil.len = 0 := rfl
        omega
  | @cons _ _ a as y ys t1 t2 =>
    refine PE.imp (pe_methZ po c.gd c.tk hb (TEs.star (.cons t1 t2)) hl hp pa) fun σ H Q z => ?_
    obtain ⟨ρ, h, σa, xx, r, w⟩ := z
    refine Lf.of (c.emono o) r w (XLe.refl _) fun y h1 ρ1 H1 v p1 m1 r1 v1 w1 => ?_
    obtain ⟨n, C, fs, fn, rfl, h2, h3, h4, h5, h6, h7, q⟩ := w1
    cases v1 with
    | ref e =>
      have z := r1.hr.ob _ _ _ e h2
      cases z with
      | @ins _ Ca dx _ ws ob cl q1 q2 =>
        obtain ⟨hc, f, fd, hm, hbd, F⟩ := c.G.m _ _ _ _ h5 h4 cl
        rw [c.hK] at hc hm hbd F
        refine ⟨_, Ca, dx, ws, _, f, fd, _, _, _, _, rfl, q1, q2.none h3, hc, hm, F, hr.mono (by omega), hbd (fn.ps.length - 1 - (Es.cons a as).len) (by omega), dvals _, ?_⟩
        refine LfL.of (c.esmono (.cons a as)) r1 (wpEs_len c.G.mono _ q) (UpX.mono p1 m1) fun zs h2 ρ2 H2 vs p2 m2 r2 v2 w2 => ?_
        refine ⟨ρ2, h2, _, ?_, r2.hr, .cons (.ref (pre_get p2 e)) (v2.append (dflt _)), c.G.mono _ _ _ _ _ _ _ (Up.mono (p1.trans p2) (m1.trans m2)) (UpX.mono (p1.trans p2) (m1.trans m2)) w2.2⟩
        rw [List.length_cons, List.length_append, List.length_replicate, w2.1]
        omega
end
end
end Z

/-! ### operations, tests, slices, methods of built-in types -/
namespace Z
open PySem PySem.Spec PyProof.Rows L2
section
variable {X : Cx} {a b c d : Expr} {ta tb tc td : L2.TE} {pos : Pos}
/-- four in a row -/
def tCh3 (r r' r'' : R2) (ta tb tc td : L2.TE) : L2.TE := fun σ H Q => ta σ H fun x H1 => tb σ H1 fun y H2 => r x y H2 fun z H3 => ∃ k, z = .bl k ∧
  (if k = true then tc σ H3 fun w' H4 => r' y w' H4 fun z2 H5 => ∃ k2, z2 = .bl k2 ∧ (if k2 = true then td σ H5 fun u H6 => r'' w' u H6 Q else Q (.bl false) H5) else Q (.bl false) H3)
theorem pe_ch3 {op op' op'' : CmpOp} {r r' r'' : R2} (ho : OpR X (compareOp op) r) (ho' : OpR X (compareOp op') r') (ho'' : OpR X (compareOp op'') r'') (ha : PE X a ta) (hb : PE X b tb) (hc : PE X c tc) (hd : PE X d td)
    (hm : lastMarks [op, op', op''] [b, c, d] = false) : PE X (.Compare a [op, op', op''] [b, c, d] pos) (tCh3 r r' r'' ta tb tc td) := by
  constructor
  intro pins s σ H Q I h
  refine Compare_chain (thn (ha.run pins s σ H _ I h) fun v s1 ⟨x, H1, I1, r1, q1⟩ => chain_link (thn (hb.run pins s1 σ H1 _ I1 q1) fun u s2 ⟨y, H2, I2, r2, q2⟩ =>
    thn (ho pins s2 σ H2 x y v u _ I2 r1 r2 q2) fun d s3 ⟨z, H3, I3, r3, k, e, q3⟩ => ?_)) hm
  subst e
  cases r3
  refine wpAny_truthy_bool ?_
  cases k with
  | false => exact ite_ff ⟨.bl false, H3, I3, rfl, q3⟩
  | true =>
    refine ite_tt (chain_link (thn (hc.run pins s3 σ H3 _ I3 q3) fun w' s4 ⟨z', H4, I4, r4, q4⟩ => thn (ho' pins s4 σ H4 y z' u w' _ I4 r2 r4 q4) fun d' s5 ⟨z2, H5, I5, r5, k2, e2, q5⟩ => ?_))
    subst e2
    cases r5
    refine wpAny_truthy_bool ?_
    cases k2 with
    | false => exact ite_ff ⟨.bl false, H5, I5, rfl, q5⟩
    | true => exact ite_tt (chain_last (thn (hd.run pins s5 σ H5 _ I5 q5) fun u' s6 ⟨y', H6, I6, r6, q6⟩ => ho'' pins s6 σ H6 z' y' w' u' Q I6 r4 r6 q6))
theorem pt_ch3 {op op' op'' : CmpOp} {r r' r'' : R2} (ho : OpR X (compareOp op) r) (ho' : OpR X (compareOp op') r') (ho'' : OpR X (compareOp op'') r'') (ha : PE X a ta) (hb : PE X b tb) (hc : PE X c tc) (hd : PE X d td)
    (hm : lastMarks [op, op', op''] [b, c, d] = false) : PT X (.Compare a [op, op', op''] [b, c, d] pos) (tTest (tCh3 r r' r'' ta tb tc td)) := by
  constructor
  intro pins s σ H Q I h
  refine isTrue_chain (thn (ha.run pins s σ H _ I h) fun v s1 ⟨x, H1, I1, r1, q1⟩ => test_link (thn (hb.run pins s1 σ H1 _ I1 q1) fun u s2 ⟨y, H2, I2, r2, q2⟩ =>
    thn (ho pins s2 σ H2 x y v u _ I2 r1 r2 q2) fun d s3 ⟨z, H3, I3, r3, k, e, q3⟩ => ?_)) hm
  subst e
  cases r3
  refine wpAny_truthy_bool ?_
  cases k with
  | false =>
    obtain ⟨k', e', q'⟩ := q3
    cases e'
    exact ite_ff ⟨H3, I3, q'⟩
  | true =>
    refine ite_tt (test_link (thn (hc.run pins s3 σ H3 _ I3 q3) fun w' s4 ⟨z', H4, I4, r4, q4⟩ => thn (ho' pins s4 σ H4 y z' u w' _ I4 r2 r4 q4) fun d' s5 ⟨z2, H5, I5, r5, k2, e2, q5⟩ => ?_))
    subst e2
    cases r5
    refine wpAny_truthy_bool ?_
    cases k2 with
    | false =>
      obtain ⟨k', e', q'⟩ := q5
      cases e'
      exact ite_ff ⟨H5, I5, q'⟩
    | true =>
      refine ite_tt (test_last (thn (hd.run pins s5 σ H5 _ I5 q5) fun u' s6 ⟨y', H6, I6, r6, q6⟩ => thn (ho'' pins s6 σ H6 z' y' w' u' _ I6 r4 r6 q6) fun c7 s7 ⟨z7, H7, I7, r7, k7, e7, q7⟩ => ?_))
      subst e7
      cases r7
      exact wpAny_truthy_bool ⟨H7, I7, q7⟩
theorem pt_ifE {tA tB tC : L2.TT} (hc : PT X c tA) (ha : PT X a tB) (hb : PT X b tC) : PT X (.IfExp c a b pos) (fun σ H Q => tA σ H fun k H1 => if k = true then tB σ H1 Q else tC σ H1 Q) := by
  constructor
  intro pins s σ H Q I h
  refine isTrue_IfExp (thn (hc.run pins s σ H _ I h) fun d s1 ⟨H1, I1, q1⟩ => ?_)
  cases d with
  | true => exact ha.run pins s1 σ H1 Q I1 q1
  | false => exact hb.run pins s1 σ H1 Q I1 q1
end
section
variable {pg : Pg} {M : Ad} {g : Fid → GQ} {k : Nat} {N : List PySem.Str}
theorem UpB.mono {ρ ρ1 : List Addr} {H H1 : Hp} {Q : Bool → Hp → Prop} (p : ρ <+: ρ1) (m : Mo M.K H H1) (b : Bool) (h : Hh) (q : UpB M ρ H Q b h) : UpB M ρ1 H1 Q b h := fun ρ' H' p' m' hr => q ρ' H' (p.trans p') (m.trans m') hr
section
variable {X : Cx} {sc : Scope} {hot : Hot} {W : Bool → WX} {xh : Xh} (c : Cok pg M g k N X sc hot W)
include c
theorem lb_of {e : E} {σ : L2.St} {H : Hp} {Q : Bool → Hp → Prop} (z : LB M pg g hot xh W e σ H Q) : LE M pg g hot xh W e σ H fun x H1 => ∃ b, x = .bl b ∧ Q b H1 := by
  obtain ⟨ρ, h, σa, xx, r, w⟩ := z
  exact ⟨ρ, h, σa, xx, r, c.emono e _ _ _ _ _ _ _ UpB.of (XLe.refl _) w⟩
/-- from a value to a test -/
theorem t_plain {e : E} {x : Expr} (p : PE X x (LE M pg g hot xh W e)) (h : plainT x = true) : PT X x (LB M pg g hot xh W e) := PT.imp (pt_val p (isTrue_plain h)) fun _ _ _ z => lb_of c z
theorem e_bin {op : Operator} {a b : E} {x y : Expr} {pos : Pos} (p : PE X x (LE M pg g hot xh W a)) (q : PE X y (LE M pg g hot xh W b)) : PE X (.BinOp x op y pos) (LE M pg g hot xh W (.bin op a b)) :=
  PE.imp (pe_op (op_bin c.hK op) p q) fun _ _ _ z => two c (f := binW op) (fun _ _ _ _ _ q => binW_mono q) z
theorem e_cmp {op : CmpOp} {a b : E} {x y : Expr} {pos : Pos} (p : PE X x (LE M pg g hot xh W a)) (q : PE X y (LE M pg g hot xh W b)) (hm : behindInMarks op y = false) : PE X (.Compare x [op] [y] pos) (LE M pg g hot xh W (.cmp op a b)) :=
  PE.imp (pe_cmpR (op_cmp c.hK c.un op) p q hm) fun _ _ _ z => two c (f := fun a b h Q => cmpW op a b h fun c => Q (.bl c) h) (fun _ _ _ _ _ q => cmpW_mono fun _ => q _ _) z
theorem t_cmp {op : CmpOp} {a b : E} {x y : Expr} {pos : Pos} (p : PE X x (LE M pg g hot xh W a)) (q : PE X y (LE M pg g hot xh W b)) (hm : behindInMarks op y = false) : PT X (.Compare x [op] [y] pos) (LB M pg g hot xh W (.cmp op a b)) :=
  PT.imp (pt_cmpR (op_cmp c.hK c.un op) p q hm) fun _ _ _ z => two c (f := fun a b h Q => cmpW op a b h fun c => Q (.bl c) h) (fun _ _ _ _ _ q => cmpW_mono fun _ => q _ _) (lb_of c z)
theorem ch2_of {o p : CmpOp} {a b d : E} {σ : L2.St} {H : Hp} {Q : VK} (z : LE M pg g hot xh W (.ch2 o p a b d) σ H Q) :
    tChain (l2 M fun a b h Q => cmpW o a b h fun c => Q (.bl c) h) (l2 M fun a b h Q => cmpW p a b h fun c => Q (.bl c) h) (LE M pg g hot xh W a) (LE M pg g hot xh W b) (LE M pg g hot xh W d) σ H Q := by
  obtain ⟨ρ, h, σa, xx, r, w⟩ := z
  refine Lf.of (c.emono a) r w (XLe.refl _) fun x h1 ρ1 H1 v p1 m1 r1 v1 w1 => ?_
  refine Lf.of (c.emono b) r1 w1 (UpX.mono p1 m1) fun y h2 ρ2 H2 u p2 m2 r2 v2 w2 => ?_
  refine ⟨ρ2, h2, x, y, r2.hr, v1.mono p2 m2, v2, cmpW_mono (fun k z ρ3 H3 v3 p3 m3 hr3 vr3 => ?_) w2⟩
  cases vr3
  refine ⟨k, rfl, ?_⟩
  cases k with
  | false => exact z _ _ _ ((p1.trans p2).trans p3) ((m1.trans m2).trans m3) hr3 (.bl _)
  | true =>
    have r3 := r2.mono p3 m3 hr3
    refine Lf.of (c.emono d) r3 z (UpX.mono ((p1.trans p2).trans p3) ((m1.trans m2).trans m3)) fun y' h4 ρ4 H4 u' p4 m4 r4 v4 w4 => ?_
    exact ⟨ρ4, h4, y, y', r4.hr, (v2.mono p3 m3).mono p4 m4, v4, cmpW_mono (fun _ => Up.mono (((p1.trans p2).trans p3).trans p4) (((m1.trans m2).trans m3).trans m4) _ _) w4⟩
theorem ch3_of {o p o3 : CmpOp} {a b d e : E} {σ : L2.St} {H : Hp} {Q : VK} (z : LE M pg g hot xh W (.ch3 o p o3 a b d e) σ H Q) :
    tCh3 (l2 M fun a b h Q => cmpW o a b h fun c => Q (.bl c) h) (l2 M fun a b h Q => cmpW p a b h fun c => Q (.bl c) h) (l2 M fun a b h Q => cmpW o3 a b h fun c => Q (.bl c) h) (LE M pg g hot xh W a) (LE M pg g hot xh W b) (LE M pg g hot xh W d) (LE M pg g hot xh W e) σ H Q := by
  obtain ⟨ρ, h, σa, xx, r, w⟩ := z
  refine Lf.of (c.emono a) r w (XLe.refl _) fun x h1 ρ1 H1 v p1 m1 r1 v1 w1 => ?_
  refine Lf.of (c.emono b) r1 w1 (UpX.mono p1 m1) fun y h2 ρ2 H2 u p2 m2 r2 v2 w2 => ?_
  refine ⟨ρ2, h2, x, y, r2.hr, v1.mono p2 m2, v2, cmpW_mono (fun k z ρ3 H3 v3 p3 m3 hr3 vr3 => ?_) w2⟩
  cases vr3
  refine ⟨k, rfl, ?_⟩
  have pA := (p1.trans p2).trans p3
  have mA := (m1.trans m2).trans m3
  cases k with
  | false => exact z _ _ _ pA mA hr3 (.bl _)
  | true =>
    have r3 := r2.mono p3 m3 hr3
    refine Lf.of (c.emono d) r3 z (UpX.mono pA mA) fun y' h4 ρ4 H4 u' p4 m4 r4 v4 w4 => ?_
    refine ⟨ρ4, h4, y, y', r4.hr, (v2.mono p3 m3).mono p4 m4, v4, cmpW_mono (fun k2 z2 ρ5 H5 v5 p5 m5 hr5 vr5 => ?_) w4⟩
    cases vr5
    refine ⟨k2, rfl, ?_⟩
    have pB := (pA.trans p4).trans p5
    have mB := (mA.trans m4).trans m5
    cases k2 with
    | false => exact z2 _ _ _ pB mB hr5 (.bl _)
    | true =>
      have r5 := r4.mono p5 m5 hr5
      refine Lf.of (c.emono e) r5 z2 (UpX.mono pB mB) fun y6 h6 ρ6 H6 u6 p6 m6 r6 v6 w6 => ?_
      exact ⟨ρ6, h6, y', y6, r6.hr, (v4.mono p5 m5).mono p6 m6, v6, cmpW_mono (fun _ => Up.mono (pB.trans p6) (mB.trans m6) _ _) w6⟩
theorem e_ch2 {o p : CmpOp} {a b d : E} {x y z : Expr} {pos : Pos} (h1 : PE X x (LE M pg g hot xh W a)) (h2 : PE X y (LE M pg g hot xh W b)) (h3 : PE X z (LE M pg g hot xh W d)) (hm : behindInMarks p z = false) : PE X (.Compare x [o, p] [y, z] pos) (LE M pg g hot xh W (.ch2 o p a b d)) :=
  PE.imp (pe_chain (op_cmp c.hK c.un o) (op_cmp c.hK c.un p) h1 h2 h3 hm) fun _ _ _ z => ch2_of c z
theorem t_ch2 {o p : CmpOp} {a b d : E} {x y z : Expr} {pos : Pos} (h1 : PE X x (LE M pg g hot xh W a)) (h2 : PE X y (LE M pg g hot xh W b)) (h3 : PE X z (LE M pg g hot xh W d)) (hm : behindInMarks p z = false) : PT X (.Compare x [o, p] [y, z] pos) (LB M pg g hot xh W (.ch2 o p a b d)) :=
  PT.imp (pt_chain (op_cmp c.hK c.un o) (op_cmp c.hK c.un p) h1 h2 h3 hm) fun _ _ _ z => ch2_of c (lb_of c z)
theorem e_ch3 {o p q : CmpOp} {a b d e : E} {x y z u : Expr} {pos : Pos} (h1 : PE X x (LE M pg g hot xh W a)) (h2 : PE X y (LE M pg g hot xh W b)) (h3 : PE X z (LE M pg g hot xh W d)) (h4 : PE X u (LE M pg g hot xh W e)) (hm : behindInMarks q u = false) : PE X (.Compare x [o, p, q] [y, z, u] pos) (LE M pg g hot xh W (.ch3 o p q a b d e)) :=
  PE.imp (pe_ch3 (op_cmp c.hK c.un o) (op_cmp c.hK c.un p) (op_cmp c.hK c.un q) h1 h2 h3 h4 hm) fun _ _ _ z => ch3_of c z
theorem t_ch3 {o p q : CmpOp} {a b d e : E} {x y z u : Expr} {pos : Pos} (h1 : PE X x (LE M pg g hot xh W a)) (h2 : PE X y (LE M pg g hot xh W b)) (h3 : PE X z (LE M pg g hot xh W d)) (h4 : PE X u (LE M pg g hot xh W e)) (hm : behindInMarks q u = false) : PT X (.Compare x [o, p, q] [y, z, u] pos) (LB M pg g hot xh W (.ch3 o p q a b d e)) :=
  PT.imp (pt_ch3 (op_cmp c.hK c.un o) (op_cmp c.hK c.un p) (op_cmp c.hK c.un q) h1 h2 h3 h4 hm) fun _ _ _ z => ch3_of c (lb_of c z)
theorem e_neg {a : E} {x : Expr} {pos : Pos} (p : PE X x (LE M pg g hot xh W a)) : PE X (.UnaryOp .USub x pos) (LE M pg g hot xh W (.neg a)) := by
  refine PE.imp (pe_un un_neg p) fun σ H Q z => ?_
  obtain ⟨ρ, h, σa, xx, r, w⟩ := z
  refine Lf.of (c.emono a) r w (XLe.refl _) fun y h1 ρ1 H1 v p1 m1 r1 v1 w1 => ?_
  obtain ⟨i, rfl, q⟩ := w1
  cases v1
  exact ⟨i, rfl, q _ _ _ p1 m1 r1.hr (.int _)⟩
theorem e_not {a : E} {x : Expr} {pos : Pos} (p : PE X x (LE M pg g hot xh W a)) : PE X (.UnaryOp .Not x pos) (LE M pg g hot xh W (.not a)) := by
  refine PE.imp (pe_not p) fun σ H Q z => ?_
  obtain ⟨ρ, h, σa, xx, r, w⟩ := z
  refine Lf.of (c.emono a) r w (XLe.refl _) fun y h1 ρ1 H1 v p1 m1 r1 v1 w1 => ?_
  obtain ⟨i, rfl, q⟩ := w1
  cases v1
  exact ⟨i, rfl, q _ _ _ p1 m1 r1.hr (.bl _)⟩
theorem t_not {a : E} {x : Expr} {pos : Pos} (p : PT X x (LB M pg g hot xh W a)) : PT X (.UnaryOp .Not x pos) (LB M pg g hot xh W (.not a)) := by
  refine PT.imp (pt_not p) fun σ H Q z => ?_
  obtain ⟨ρ, h, σa, xx, r, w⟩ := z
  refine ⟨ρ, h, σa, xx, r, c.emono a _ _ _ _ _ _ _ (fun y h1 w1 => ?_) (XLe.refl _) w⟩
  obtain ⟨i, rfl, j, e, q⟩ := w1
  cases e
  exact ⟨i, rfl, fun ρ' H' p' m' hr' => q ρ' H' p' m' hr'⟩
theorem lfB {e : E} {ρ : List Addr} {h : Hh} {H : Hp} {σa : SA} {xx : Xx} {σ : L2.St} {R : QV} {Y : XQ} {Q : Bool → Hp → Prop} (r : Rl M pg hot xh ρ h H σa xx σ) (w : wpE pg g xx e σa h R Y) (hx : XLe Y (UpX M ρ H fun b cls d H' => W b cls d σ H'))
    (q : ∀ a h' , R a h' → ∃ b, a = .bl b ∧ ∀ ρ' H', ρ <+: ρ' → Mo M.K H H' → Rl M pg hot xh ρ' h' H' σa xx σ → Q b H') : LB M pg g hot xh W e σ H Q := by
  refine ⟨ρ, h, σa, xx, r, c.emono e _ _ _ _ _ _ _ (fun a h1 z => ?_) hx w⟩
  obtain ⟨b, e, q⟩ := q a h1 z
  exact ⟨b, e, fun ρ' H' p' m' hr' => q ρ' H' p' m' (r.mono p' m' hr')⟩
theorem e_ite {d a b : E} {z x y : Expr} {pos : Pos} (h1 : PT X z (LB M pg g hot xh W d)) (h2 : PE X x (LE M pg g hot xh W a)) (h3 : PE X y (LE M pg g hot xh W b)) : PE X (.IfExp z x y pos) (LE M pg g hot xh W (.ite d a b)) := by
  refine PE.imp (pe_ifExp h1 h2 h3) fun σ H Q z => ?_
  obtain ⟨ρ, h, σa, xx, r, w⟩ := z
  refine lfB c r w (XLe.refl _) fun v h1 w1 => ?_
  obtain ⟨i, rfl, q⟩ := w1
  refine ⟨i, rfl, fun ρ1 H1 p1 m1 r1 => ?_⟩
  cases i with
  | true => exact ⟨ρ1, h1, σa, xx, r1, c.emono a _ _ _ _ _ _ _ (Up.mono p1 m1) (UpX.mono p1 m1) q⟩
  | false => exact ⟨ρ1, h1, σa, xx, r1, c.emono b _ _ _ _ _ _ _ (Up.mono p1 m1) (UpX.mono p1 m1) q⟩
theorem t_ite {d a b : E} {z x y : Expr} {pos : Pos} (h1 : PT X z (LB M pg g hot xh W d)) (h2 : PT X x (LB M pg g hot xh W a)) (h3 : PT X y (LB M pg g hot xh W b)) : PT X (.IfExp z x y pos) (LB M pg g hot xh W (.ite d a b)) := by
  refine PT.imp (pt_ifE h1 h2 h3) fun σ H Q z => ?_
  obtain ⟨ρ, h, σa, xx, r, w⟩ := z
  refine lfB c r w (XLe.refl _) fun v h1 w1 => ?_
  obtain ⟨i, rfl, q⟩ := w1
  refine ⟨i, rfl, fun ρ1 H1 p1 m1 r1 => ?_⟩
  cases i with
  | true => exact ⟨ρ1, h1, σa, xx, r1, c.emono a _ _ _ _ _ _ _ (fun v h2 ⟨b, e, q⟩ => ⟨b, e, UpB.mono p1 m1 _ _ q⟩) (UpX.mono p1 m1) q⟩
  | false => exact ⟨ρ1, h1, σa, xx, r1, c.emono b _ _ _ _ _ _ _ (fun v h2 ⟨b, e, q⟩ => ⟨b, e, UpB.mono p1 m1 _ _ q⟩) (UpX.mono p1 m1) q⟩
theorem e_idx {a b : E} {x y : Expr} {pos : Pos} (p : PE X x (LE M pg g hot xh W a)) (q : PE X y (LE M pg g hot xh W b)) (hp : PlainIx y) : PE X (.Subscript x y pos) (LE M pg g hot xh W (.idx a b)) :=
  PE.imp (pe_ix (ix_any c.hK) p q hp) fun _ _ _ z => two c (f := idxW) (fun _ _ _ _ _ q => idxW_mono q) z
abbrev LO (M : Ad) (pg : Pg) (g : Fid → GQ) (hot : Hot) (xh : Xh) (W : Bool → WX) (e : E) : L2.TO := fun σ H Q => ∃ ρ h σa xx, Rl M pg hot xh ρ h H σa xx σ ∧ wpO (wpE pg g xx e) e σa h (fun o h' => ∀ ρ' H', ρ <+: ρ' → Mo M.K H H' → HR M ρ' h' H' → Q o H') (UpX M ρ H fun b cls d H' => W b cls d σ H')
theorem wpO_ne {t : WE} {hot : Hot} {sc : Scope} {e : E} {x : Expr} (h : TE N hot sc e x) {σ : SA} {h' : Hh} {Q : Option Int → Hh → Prop} {Y : XQ} : wpO t e σ h' Q Y = t σ h' (fun x h1 => ∃ i, x = .int i ∧ Q (some i) h1) Y := by
  cases h <;> rfl
theorem o_no : PO X none (LO M pg g hot xh W .no) := by
  refine PO.imp po_none fun σ H Q z => ?_
  obtain ⟨ρ, h, σa, xx, r, w⟩ := z
  exact w ρ H (List.prefix_refl _) Mo.refl r.hr
theorem o_some {e : E} {x : Expr} (t : TE N hot sc e x) (p : PE X x (LE M pg g hot xh W e)) : PO X (some x) (LO M pg g hot xh W e) := by
  refine PO.imp (po_some p) fun σ H Q z => ?_
  obtain ⟨ρ, h, σa, xx, r, w⟩ := z
  rw [wpO_ne c t] at w
  refine Lf.of (c.emono e) r w (XLe.refl _) fun y h1 ρ1 H1 v p1 m1 r1 v1 w1 => ?_
  obtain ⟨i, rfl, q⟩ := w1
  cases v1
  exact ⟨i, rfl, q _ _ p1 m1 r1.hr⟩
theorem e_slc {a lo hi : E} {x : Expr} {l u : Option Expr} {p2 pos : Pos} (h1 : PE X x (LE M pg g hot xh W a)) (h2 : PO X l (LO M pg g hot xh W lo)) (h3 : PO X u (LO M pg g hot xh W hi)) : PE X (.Subscript x (.Slice l u none p2) pos) (LE M pg g hot xh W (.slc a lo hi)) := by
  refine PE.imp (pe_slice (sl_any c.hK) h1 h2 h3) fun σ H Q z => ?_
  obtain ⟨ρ, h, σa, xx, r, w⟩ := z
  refine Lf.of (c.emono a) r w (XLe.refl _) fun y h1 ρ1 H1 v p1 m1 r1 v1 w1 => ?_
  refine ⟨ρ1, h1, σa, xx, r1, wpO_mono (c.emono lo xx) lo (fun o h2 w2 ρ2 H2 p2 m2 hr2 => ?_) (UpX.mono p1 m1) w1⟩
  refine ⟨ρ2, h2, σa, xx, r1.mono p2 m2 hr2, wpO_mono (c.emono hi xx) hi (fun o3 h3 w3 ρ3 H3 p3 m3 hr3 => ?_) (UpX.mono (p1.trans p2) (m1.trans m2)) w2⟩
  exact ⟨ρ3, h3, y, hr3, (v1.mono p2 m2).mono p3 m3, slcW_mono (Up.mono ((p1.trans p2).trans p3) ((m1.trans m2).trans m3)) w3⟩
theorem e_rev {a : E} {x : Expr} {j : Nat} {p1 p2 p3 pos : Pos} (p : PE X x (LE M pg g hot xh W a)) : PE X (.Subscript x (.Slice none none (some (.UnaryOp .USub (.Constant (.int 1) j p1) p2)) p3) pos) (LE M pg g hot xh W (.rev a)) := by
  refine PE.imp (pe_revL p) fun σ H Q z => ?_
  obtain ⟨ρ, h, σa, xx, r, w⟩ := z
  refine Lf.of (c.emono a) r w (XLe.refl _) fun y h1 ρ1 H1 v p1 m1 r1 v1 w1 => ?_
  obtain ⟨n, xs, rfl, e, q⟩ := w1
  cases v1 with
  | ref ea =>
    obtain ⟨vs, g1, g2⟩ := r1.hr.lst e ea
    exact ⟨_, vs, rfl, SqL.of g1, fun p np => Up.lst (show new h1 (.lst xs.reverse) (Up M ρ1 H1 Q) from Up.mono p1 m1 _ _ q) r1.hr np g2.reverse⟩
/-! and, or -/
abbrev LA (M : Ad) (pg : Pg) (g : Fid → GQ) (hot : Hot) (xh : Xh) (W : Bool → WX) (o : Bool) (e : Es) : L2.TE := Lf M pg hot xh W fun xx => if o then wpOr pg g xx e else wpAnd pg g xx e
abbrev LAB (M : Ad) (pg : Pg) (g : Fid → GQ) (hot : Hot) (xh : Xh) (W : Bool → WX) (o : Bool) (e : Es) : L2.TT := LfB M pg hot xh W fun xx σ h Q Y => (if o then wpOr pg g xx e else wpAnd pg g xx e) σ h (fun x h1 => ∃ k, x = .bl k ∧ Q k h1) Y
theorem e_and1 {a : E} {x : Expr} {pos : Pos} (p : PE X x (LE M pg g hot xh W a)) : PE X (.BoolOp .And [x] pos) (LA M pg g hot xh W false (.cons a .nil)) := PE.imp (pe_one p) fun _ _ _ z => z
theorem e_or1 {a : E} {x : Expr} {pos : Pos} (p : PE X x (LE M pg g hot xh W a)) : PE X (.BoolOp .Or [x] pos) (LA M pg g hot xh W true (.cons a .nil)) := PE.imp (pe_one p) fun _ _ _ z => z
theorem e_and2 {a b : E} {r : Es} {x y : Expr} {ys : List Expr} {pos : Pos} (p : PE X x (LE M pg g hot xh W a)) (q : PE X (.BoolOp .And (y :: ys) pos) (LA M pg g hot xh W false (.cons b r))) : PE X (.BoolOp .And (x :: y :: ys) pos) (LA M pg g hot xh W false (.cons a (.cons b r))) := by
  refine PE.imp (pe_and p q) fun σ H Q z => ?_
  obtain ⟨ρ, h, σa, xx, rr, w⟩ := z
  refine Lf.of (c.emono a) rr w (XLe.refl _) fun y h1 ρ1 H1 v p1 m1 r1 v1 w1 => ?_
  obtain ⟨i, rfl, q⟩ := w1
  cases v1
  refine ⟨i, rfl, ?_⟩
  cases i with
  | true => exact ⟨ρ1, h1, σa, xx, r1, wpAnd_mono c.G.mono (.cons b r) (Up.mono p1 m1) (UpX.mono p1 m1) q⟩
  | false => exact q _ _ _ p1 m1 r1.hr (.bl _)
theorem e_or2 {a b : E} {r : Es} {x y : Expr} {ys : List Expr} {pos : Pos} (p : PE X x (LE M pg g hot xh W a)) (q : PE X (.BoolOp .Or (y :: ys) pos) (LA M pg g hot xh W true (.cons b r))) : PE X (.BoolOp .Or (x :: y :: ys) pos) (LA M pg g hot xh W true (.cons a (.cons b r))) := by
  refine PE.imp (pe_or p q) fun σ H Q z => ?_
  obtain ⟨ρ, h, σa, xx, rr, w⟩ := z
  refine Lf.of (c.emono a) rr w (XLe.refl _) fun y h1 ρ1 H1 v p1 m1 r1 v1 w1 => ?_
  obtain ⟨i, rfl, q⟩ := w1
  cases v1
  refine ⟨i, rfl, ?_⟩
  cases i with
  | false => exact ⟨ρ1, h1, σa, xx, r1, wpOr_mono c.G.mono (.cons b r) (Up.mono p1 m1) (UpX.mono p1 m1) q⟩
  | true => exact q _ _ _ p1 m1 r1.hr (.bl _)
theorem t_and1 {a : E} {x : Expr} {pos : Pos} (p : PT X x (LB M pg g hot xh W a)) : PW X (.BoolOp .And [x] pos) (LAB M pg g hot xh W false (.cons a .nil)) := PW.imp (pw_and1 p) fun _ _ _ z => z
theorem t_or1 {a : E} {x : Expr} {pos : Pos} (p : PT X x (LB M pg g hot xh W a)) : PW X (.BoolOp .Or [x] pos) (LAB M pg g hot xh W true (.cons a .nil)) := PW.imp (pw_or1 p) fun _ _ _ z => z
theorem t_and2 {a b : E} {r : Es} {x y : Expr} {ys : List Expr} {pos : Pos} (p : PT X x (LB M pg g hot xh W a)) (q : PW X (.BoolOp .And (y :: ys) pos) (LAB M pg g hot xh W false (.cons b r))) : PW X (.BoolOp .And (x :: y :: ys) pos) (LAB M pg g hot xh W false (.cons a (.cons b r))) := by
  refine PW.imp (pw_and p q) fun σ H Q z => ?_
  obtain ⟨ρ, h, σa, xx, rr, w⟩ := z
  refine lfB c rr w (XLe.refl _) fun v h1 w1 => ?_
  obtain ⟨i, rfl, q⟩ := w1
  refine ⟨i, rfl, fun ρ1 H1 p1 m1 r1 => ?_⟩
  cases i with
  | true => exact ⟨ρ1, h1, σa, xx, r1, wpAnd_mono c.G.mono (.cons b r) (fun v h2 ⟨b, e, q⟩ => ⟨b, e, UpB.mono p1 m1 _ _ q⟩) (UpX.mono p1 m1) q⟩
  | false =>
    obtain ⟨j, e, q⟩ := q
    cases e
    exact q _ _ p1 m1 r1.hr
theorem t_or2 {a b : E} {r : Es} {x y : Expr} {ys : List Expr} {pos : Pos} (p : PT X x (LB M pg g hot xh W a)) (q : PW X (.BoolOp .Or (y :: ys) pos) (LAB M pg g hot xh W true (.cons b r))) : PW X (.BoolOp .Or (x :: y :: ys) pos) (LAB M pg g hot xh W true (.cons a (.cons b r))) := by
  refine PW.imp (pw_or p q) fun σ H Q z => ?_
  obtain ⟨ρ, h, σa, xx, rr, w⟩ := z
  refine lfB c rr w (XLe.refl _) fun v h1 w1 => ?_
  obtain ⟨i, rfl, q⟩ := w1
  refine ⟨i, rfl, fun ρ1 H1 p1 m1 r1 => ?_⟩
  cases i with
  | false => exact ⟨ρ1, h1, σa, xx, r1, wpOr_mono c.G.mono (.cons b r) (fun v h2 ⟨b, e, q⟩ => ⟨b, e, UpB.mono p1 m1 _ _ q⟩) (UpX.mono p1 m1) q⟩
  | true =>
    obtain ⟨j, e, q⟩ := q
    cases e
    exact q _ _ p1 m1 r1.hr
end
end
end Z

/-! ### methods of lists; comprehensions; what is walked -/
namespace Z
open PySem PySem.Spec PyProof.Rows L2
section
variable {pg : Pg} {M : Ad} {g : Fid → GQ} {k : Nat} {N : List PySem.Str}
theorem few {env : Env} {pos : Pos} {e : Expr} {es : List Expr} (h : (e :: es).all noStar = true) (hl : (e :: es).length < 30) :
    ((backTo pos (starEach (e :: es) env)).all (fun x => !x.1) && (backToKw pos (keywordEach [] env)).all (fun x => x.1.isSome) && decide ((e :: es).length + ([] : List Keyword).length + (if ([] : List Keyword).isEmpty then 0 else 1) < 30)) = true := by
  have z : (backTo pos (starEach (e :: es) env)).all (fun x => !x.1) = true := by
    rw [star_all h]
    unfold backTo
    rw [List.map_map, List.all_map]
    simp
  rw [z, Bool.true_and, Bool.and_eq_true]
  refine ⟨rfl, ?_⟩
  show decide ((e :: es).length + 0 + 0 < 30) = true
  simpa using hl
section
variable {X : Cx} {sc : Scope} {hot : Hot} {W : Bool → WX} {xh : Xh} (c : Cok pg M g k N X sc hot W)
include c
theorem bmt {T : String} {f : A → List A → Hh → QV → Prop} {o : E} {as : Es} {σ : L2.St} {H : Hp} {Q : VK} (hT : T = "list" ∨ T = "str" ∨ T = "dict") (fm : ∀ x xs h Q Q', QLe Q Q' → f x xs h Q → f x xs h Q')
    (z : Lf M pg hot xh W (fun xx σ h Q Y => wpE pg g xx o σ h (fun x h1 => kindA h1 x = some T ∧ wpEs pg g xx as σ h1 (fun xs h2 => f x xs h2 Q) Y) Y) σ H Q) : tBM X.K T (lM M f) (LE M pg g hot xh W o) (LEs M pg g hot xh W as) σ H Q := by
  obtain ⟨ρ, h, σa, xx, r, w⟩ := z
  refine Lf.of (c.emono o) r w (XLe.refl _) fun y h1 ρ1 H1 v p1 m1 r1 v1 w1 => ?_
  refine ⟨kind_tyV c.hK r1.hr v1 w1.1 hT (c.G.obk T (by rcases hT with rfl | rfl | rfl <;> decide)), ?_⟩
  refine LfL.of (c.esmono as) r1 w1.2 (UpX.mono p1 m1) fun ys h2 ρ2 H2 vs p2 m2 r2 v2 w2 => ?_
  exact ⟨ρ2, h2, y, ys, r2.hr, v1.mono p2 m2, v2, fm _ _ _ _ _ (Up.mono (p1.trans p2) (m1.trans m2)) w2⟩
theorem e_bm {m : Bm} {o : E} {as : Es} {x : Expr} {xs : List Expr} {ap pos : Pos} (hm : m.known = true) (po : PE X x (LE M pg g hot xh W o)) (hb : attributeBase x (st m.nm) X.env (eval x X.env) = eval x X.env) (t : TEs N hot sc as xs) (hl : xs.length < 30) (hp : (ap.endLine == pos.line) = true) (pa : PA X xs (LEs M pg g hot xh W as)) :
    PE X (.Call (.Attribute x (st m.nm) ap) xs [] pos) (LE M pg g hot xh W (.bm m o as)) := by
  have go : ∀ (T id : String), T = m.T → (T = "list" ∨ T = "str" ∨ T = "dict") → PlainAttrs T → Slot T (st m.nm) id → typeOf (.builtin id) = pure (.type "method_descriptor") → MtM X id (lM M (bmW m)) → PE X (.Call (.Attribute x (st m.nm) ap) xs [] pos) (LE M pg g hot xh W (.bm m o as)) := by
    intro T id eT hT pl sl ty mm
    cases t with
    | nil =>
      refine PE.imp (pe_bm0 pl sl ty mm po hb hp) fun σ H Q z => ?_
      obtain ⟨ρ, h, σa, xx, r, w⟩ := z
      refine Lf.of (c.emono o) r w (XLe.refl _) fun y h1 ρ1 H1 v p1 m1 r1 v1 w1 => ?_
      refine ⟨kind_tyV c.hK r1.hr v1 (by rw [eT]; exact w1.1) hT (c.G.obk T (by rcases hT with rfl | rfl | rfl <;> decide)), ?_⟩
      exact ⟨ρ1, h1, y, [], r1.hr, v1, .nil, bmW_mono (Up.mono p1 m1) w1.2⟩
    | @cons _ _ a as y ys t1 t2 =>
      have hs := TEs.star (TEs.cons t1 t2)
      have hs2 := hs
      rw [List.all_cons, Bool.and_eq_true] at hs2
      refine PE.imp (pe_bm pl sl ty mm po pa hb (few hs hl) hp (star_cons hs2.1) (back_any hs2.2)) fun σ H Q z => ?_
      exact bmt c (T := T) (f := bmW m) (as := .cons a as) hT (fun _ _ _ _ _ q => bmW_mono q) (by subst eT; exact z)
  cases m <;> first
    | (cases hm; done)
    | exact go "list" _ rfl (.inl rfl) PySem.F.plainAttrs_list PySem.F.slot_list_append PySem.F.type_list_append mm_append
    | exact go "list" _ rfl (.inl rfl) PySem.F.plainAttrs_list PySem.F.slot_list_extend PySem.F.type_list_extend mm_extend
    | exact go "list" _ rfl (.inl rfl) PySem.F.plainAttrs_list PySem.F.slot_list_pop PySem.F.type_list_pop mm_pop
    | exact go "list" _ rfl (.inl rfl) PySem.F.plainAttrs_list PySem.F.slot_list_pop PySem.F.type_list_pop mm_popat
    | exact go "list" _ rfl (.inl rfl) PySem.F.plainAttrs_list PySem.F.slot_list_reverse PySem.F.type_list_reverse mm_reverse
    | exact go "list" _ rfl (.inl rfl) PySem.F.plainAttrs_list PySem.F.slot_list_clear PySem.F.type_list_clear mm_clear
    | exact go "list" _ rfl (.inl rfl) PySem.F.plainAttrs_list PySem.F.slot_list_insert PySem.F.type_list_insert mm_insert
    | exact go "list" _ rfl (.inl rfl) PySem.F.plainAttrs_list PySem.F.slot_list_index PySem.F.type_list_index (mm_indexL c.hK)
    | exact go "str" _ rfl (.inr (.inl rfl)) PySem.F.plainAttrs_str PySem.F.slot_str_index PySem.F.type_str_index mm_indexS
    | exact go "str" _ rfl (.inr (.inl rfl)) PySem.F.plainAttrs_str PySem.F.slot_str_join PySem.F.type_str_join (mm_join c.hK)
    | exact go "str" _ rfl (.inr (.inl rfl)) PySem.F.plainAttrs_str PySem.F.slot_str_split PySem.F.type_str_split mm_split
    | exact go "str" _ rfl (.inr (.inl rfl)) PySem.F.plainAttrs_str PySem.F.slot_str_startswith PySem.F.type_str_startswith mm_startswith
    | exact go "str" _ rfl (.inr (.inl rfl)) PySem.F.plainAttrs_str PySem.F.slot_str_upper PySem.F.type_str_upper mm_upper
    | exact go "str" _ rfl (.inr (.inl rfl)) PySem.F.plainAttrs_str PySem.F.slot_str_strip PySem.F.type_str_strip mm_strip
    | exact go "str" _ rfl (.inr (.inl rfl)) PySem.F.plainAttrs_str PySem.F.slot_str_rstrip PySem.F.type_str_rstrip mm_rstripC
theorem e_tix {o a : E} {x y : Expr} {ap pos : Pos} (po : PE X x (LE M pg g hot xh W o)) (hb : attributeBase x (st "index") X.env (eval x X.env) = eval x X.env) (pa : PE X y (LE M pg g hot xh W a)) (hs : noStar y = true) (hp : (ap.endLine == pos.line) = true) :
    PE X (.Call (.Attribute x (st "index") ap) [y] [] pos) (LE M pg g hot xh W (.tix o a)) := by
  have hsy : [y].all noStar = true := by rw [List.all_cons, hs]; rfl
  refine ⟨fun pins s σ H Q I z => ?_⟩
  obtain ⟨ρ, h, σa, xx, r, w⟩ := z
  refine wpAny_Call_method_late hb (few hsy (show 1 < 30 by decide)) hp rfl (thn (po.run pins s σ H (fun v H1 => ∃ p vs, v = .ref p ∧ KtT M.K H1 p vs ∧ LE M pg g hot xh W a σ H1 fun u H2 => lM M (bmW .indexT) v [u] H2 Q) I ?_) fun v s1 ⟨x, H1, I1, r1, p, vs, e, kt, q1⟩ => ?_)
  · refine Lf.of (c.emono o) r w (XLe.refl _) fun y h1 ρ1 H1 v p1 m1 r1 v1 w1 => ?_
    obtain ⟨xs, rfl, w1⟩ := w1
    have v1' := v1
    cases v1 with
    | kt e rr =>
      refine ⟨_, _, rfl, e, Lf.of (c.emono a) r1 w1 (UpX.mono p1 m1) fun y h2 ρ2 H2 u p2 m2 r2 v2 w2 => ?_⟩
      exact ⟨ρ2, h2, _, _, r2.hr, v1'.mono p2 m2, .cons v2 .nil, bmW_mono (Up.mono (p1.trans p2) (m1.trans m2)) w2⟩
  · subst e
    obtain rfl : v = Value.ref p := r1
    have there : ∃ o : Obj, s1.heap.get? p = some o ∧ o.cls = .type "tuple" ∧ o.dict = none := by
      rcases kt with ⟨_, o, e, hc, hd⟩ | ⟨o, e, hc, hd⟩
      · rw [c.hK] at e
        exact ⟨o, I1.kIn p o e, hc, hd⟩
      · exact ⟨o, (I1.hok p _ e).1, hc, hd⟩
    obtain ⟨ob, hob, hcl, hdd⟩ := there
    refine ⟨"tuple", _, PySem.F.plainAttrs_tuple, PySem.F.slot_tuple_index, PySem.F.type_tuple_index, ⟨ob, hob, hcl⟩, fun a e => by cases e; exact ⟨ob, hob, hdd⟩, ?_⟩
    have hA := pa.run pins s1 σ H1 _ I1 q1
    rw [star_cons hs]
    refine Calls.callWith_builtin (by show (false || (backTo pos (starEach [] X.env)).any (·.1)) = false; rfl) (Calls.evalArgs_plain (Calls.spliced_cons (thn hA fun iv s2 ⟨u, H2, I2, ry, q2⟩ => Calls.spliced_nil ?_)))
    exact mm_indexT c.hK pins s2 σ H2 (.ref p) [u] (.ref p) [iv] Q I2 rfl (.cons ry .nil) q2
/-! what is walked -/
theorem i_ex {a : E} {tg x : Expr} (p : PE X x (LE M pg g hot xh W a)) : PI X tg x (LI M pg g hot xh W (.ex a)) := by
  refine PI.imp (pi_any p) fun σ H R z => ?_
  obtain ⟨ρ, h, σa, xx, r, w⟩ := z
  refine Lf.of (c.emono a) r w (XLe.refl _) fun y h1 ρ1 H1 v p1 m1 r1 v1 w1 => ?_
  have hK := c.hK
  unfold srcW at w1
  split at w1
  · cases v1 with
    | tup e s => exact .inr (.inl ⟨_, _, rfl, SqT.of e, w1 _ _ _ p1 m1 r1.hr (wk_tup (fun H m => SqT.of (m.tup _ _ e)) s)⟩)
  · cases v1 with
    | fro e s => exact .inl ⟨_, _, rfl, hK ▸ e.sq, w1 _ _ _ p1 m1 r1.hr (wk_fro e s hK)⟩
  · cases v1 with
    | kt e s => exact .inr (.inl ⟨_, _, rfl, hK ▸ e.sq, w1 _ _ _ p1 m1 r1.hr (wk_tup (fun H m => hK ▸ (e.mono m).sq) s)⟩)
  · cases v1
    exact .inr (.inr ⟨_, rfl, w1 _ _ _ p1 m1 r1.hr wk_str⟩)
  · obtain ⟨xs, e, w1⟩ := w1
    cases v1 with
    | ref ea =>
      obtain ⟨vs, g1, g2⟩ := r1.hr.lst e ea
      exact .inl ⟨_, vs, rfl, SqL.of g1, w1 _ _ _ p1 m1 r1.hr (wk_list ea hK)⟩
  · exact w1.elim
theorem i_rng {as : Es} {tg : Expr} {xs : List Expr} {p pos : Pos} (hl : (xs.length == 1 || (xs.length == 2 || xs.length == 3)) = true) (hg : Gsc sc ("range" : PySem.Str)) (t : TEs N hot sc as xs) (pa : PA X xs (LEs M pg g hot xh W as)) : PI X tg (.Call (.Name ("range" : PySem.Str) p) xs [] pos) (LI M pg g hot xh W (.rng as)) := by
  have hm := c.G.blt "range" (by decide)
  have hs := t.star
  have hn := t.len
  match xs, hl, hs, hn, pa with
  | [x], _, hs, hn, pa =>
    refine PI.imp (pi_range1 (c.gl hg) hm pa (star_all hs)) fun σ H R z => ?_
    obtain ⟨ρ, h, σa, xx, r, w⟩ := z
    refine LfL.of (c.esmono as) r (wpEs_len c.G.mono as w) (XLe.refl _) fun ys h1 ρ1 H1 vs p1 m1 r1 v1 w1 => ?_
    obtain ⟨l, w1⟩ := w1
    rw [hn] at l
    unfold rngW at w1
    split at w1
    · obtain ⟨v, e0, v2⟩ := vrs1 v1
      cases v2
      exact ⟨_, e0, w1.1.1, w1.1.2, w1.2 _ _ _ p1 m1 r1.hr wk_rng⟩
    · cases l
    · cases l
    · exact w1.elim
  | [x, y], _, hs, hn, pa =>
    have hs2 := hs
    rw [List.all_cons, Bool.and_eq_true] at hs2
    refine PI.imp (pi_range2 (c.gl hg) hm pa (star_all hs) (star_all hs2.2)) fun σ H R z => ?_
    obtain ⟨ρ, h, σa, xx, r, w⟩ := z
    refine LfL.of (c.esmono as) r (wpEs_len c.G.mono as w) (XLe.refl _) fun ys h1 ρ1 H1 vs p1 m1 r1 v1 w1 => ?_
    obtain ⟨l, w1⟩ := w1
    rw [hn] at l
    unfold rngW at w1
    split at w1
    · cases l
    · obtain ⟨v, u, rfl, v1, v2⟩ := vrs2 v1
      cases v1
      cases v2
      exact ⟨_, _, rfl, ⟨w1.1.1, w1.1.2, w1.2.1.1, w1.2.1.2⟩, w1.2.2 _ _ _ p1 m1 r1.hr wk_rng⟩
    · cases l
    · exact w1.elim
  | [x, y, y2], _, hs, hn, pa =>
    have hs2 := hs
    rw [List.all_cons, Bool.and_eq_true] at hs2
    refine PI.imp (pi_range3 (c.gl hg) hm pa (star_cons hs2.1) (back_any hs2.2)) fun σ H R z => ?_
    obtain ⟨ρ, h, σa, xx, r, w⟩ := z
    refine LfL.of (c.esmono as) r (wpEs_len c.G.mono as w) (XLe.refl _) fun ys h1 ρ1 H1 vs p1 m1 r1 v1 w1 => ?_
    obtain ⟨l, w1⟩ := w1
    rw [hn] at l
    unfold rngW at w1
    split at w1
    · cases l
    · cases l
    · obtain ⟨n, w0, w1⟩ := w1
      cases v1 with
      | cons a1 v1 =>
        obtain ⟨v, u, rfl, v1, v2⟩ := vrs2 v1
        cases a1
        cases v1
        cases v2
        exact ⟨_, _, _, n, rfl, w0, w1 _ _ _ p1 m1 r1.hr wk_rngC⟩
    · exact w1.elim
theorem i_enm {a : E} {x : Expr} {es : List Expr} {j : Nat} {tp p pos : Pos} (hg : Gsc sc ("enumerate" : PySem.Str)) (hx : noStar x = true) (pe : PE X x (LE M pg g hot xh W a)) : PI X (.Tuple es j tp) (.Call (.Name ("enumerate" : PySem.Str) p) [x] [] pos) (LI M pg g hot xh W (.enm a)) := by
  refine PI.imp (pi_enumA (c.gl hg) (c.G.blt "enumerate" (by decide)) (pa_cons pe pa_nil (star_cons hx)) (star_all (by rw [List.all_cons, hx]; rfl))) fun σ H R z => ?_
  obtain ⟨ρ, h, σa, xx, r, w⟩ := z
  refine Lf.of (c.emono a) r w (XLe.refl _) fun y h1 ρ1 H1 v p1 m1 r1 v1 w1 => ?_
  rcases w1 with ⟨n, xs, rfl, e, w1⟩ | ⟨xs, rfl, w1⟩
  · cases v1 with
    | ref ea =>
      obtain ⟨vs, g1, g2⟩ := r1.hr.lst e ea
      exact .inl ⟨_, vs, rfl, SqL.of g1, w1 _ _ _ p1 m1 r1.hr (wk_enum ea)⟩
  · cases v1 with
    | tup e s => exact .inr ⟨_, _, rfl, SqT.of e, w1 _ _ _ p1 m1 r1.hr (wk_enumT (fun H m => SqT.of (m.tup _ _ e)) s)⟩
theorem i_zip {a b : E} {x y : Expr} {es : List Expr} {j : Nat} {tp p pos : Pos} (hg : Gsc sc ("zip" : PySem.Str)) (hx : noStar x = true) (hy : noStar y = true) (pe : PE X x (LE M pg g hot xh W a)) (pe2 : PE X y (LE M pg g hot xh W b)) : PI X (.Tuple es j tp) (.Call (.Name ("zip" : PySem.Str) p) [x, y] [] pos) (LI M pg g hot xh W (.zip a b)) := by
  refine PI.imp (pi_zip (c.gl hg) (c.G.blt "zip" (by decide)) (pa_cons pe (pa_cons pe2 pa_nil (star_cons hy)) (star_cons hx)) (star_cons hx) (back_any (by rw [List.all_cons, hy]; rfl))) fun σ H R z => ?_
  obtain ⟨ρ, h, σa, xx, r, w⟩ := z
  refine Lf.of (c.emono a) r w (XLe.refl _) fun y h1 ρ1 H1 v p1 m1 r1 v1 w1 => ?_
  refine Lf.of (c.emono b) r1 w1 (UpX.mono p1 m1) fun y2 h2 ρ2 H2 v' p2 m2 r2 v2 w2 => ?_
  obtain ⟨n, n2, xs, ys, rfl, rfl, e, e2, w2⟩ := w2
  cases v1 with
  | ref ea =>
    cases v2 with
    | ref eb =>
      obtain ⟨vs, g1, g2⟩ := r2.hr.lst e (pre_get p2 ea)
      obtain ⟨ws, g3, g4⟩ := r2.hr.lst e2 eb
      exact ⟨_, _, vs, ws, rfl, SqL.of g1, SqL.of g3, w2 _ _ _ (p1.trans p2) (m1.trans m2) r2.hr (wk_zip (pre_get p2 ea) eb)⟩
theorem i_rev {a : E} {tg x : Expr} {p pos : Pos} (hg : Gsc sc ("reversed" : PySem.Str)) (hx : noStar x = true) (pe : PE X x (LE M pg g hot xh W a)) : PI X tg (.Call (.Name ("reversed" : PySem.Str) p) [x] [] pos) (LI M pg g hot xh W (.rev a)) := by
  refine PI.imp (RT.pi_revA (c.gl hg) (c.G.blt "reversed" (by decide)) pe (star_cons hx)) fun σ H R z => ?_
  obtain ⟨ρ, h, σa, xx, r, w⟩ := z
  refine Lf.of (c.emono a) r w (XLe.refl _) fun y h1 ρ1 H1 v p1 m1 r1 v1 w1 => ?_
  rcases w1 with ⟨n, xs, rfl, e, w1⟩ | ⟨xs, rfl, w1⟩
  · cases v1 with
    | ref ea =>
      obtain ⟨vs, g1, g2⟩ := r1.hr.lst e ea
      exact ⟨_, vs, rfl, .inl ⟨SqL.of g1, w1 _ _ _ p1 m1 r1.hr (wk_rev ea g2.length.symm)⟩⟩
  · cases v1 with
    | tup e s => exact ⟨_, _, rfl, .inr ⟨SqT.of e, w1 _ _ _ p1 m1 r1.hr (wk_revT (fun H m => SqT.of (m.tup _ _ e)) s rfl)⟩⟩
omit c in
theorem rng_reverse {n : Nat} : (rngA 0 n).reverse = rngC (0 + (n : Int) - 1) (-1) n := by
  unfold rngA rngC
  rw [← List.map_reverse]
  apply List.ext_getElem
  · simp
  · intro i h1 h2
    simp only [List.length_map, List.length_reverse, List.length_range] at h1
    rw [List.getElem_map, List.getElem_map, List.getElem_reverse, List.getElem_range, List.getElem_range, List.length_range]
    congr 1
    omega
theorem i_revR {a : E} {tg x : Expr} {p p2 pos pos2 : Pos} (hg : Gsc sc ("reversed" : PySem.Str)) (hg2 : Gsc sc ("range" : PySem.Str)) (hx : noStar x = true) (pe : PE X x (LE M pg g hot xh W a)) :
    PI X tg (.Call (.Name ("reversed" : PySem.Str) p) [.Call (.Name ("range" : PySem.Str) p2) [x] [] pos2] [] pos) (LI M pg g hot xh W (.revR (.cons a .nil))) := by
  refine PI.imp (L2.pi_revR (c.gl hg) (c.G.blt "reversed" (by decide)) (prg_1 (c.gl hg2) (c.G.blt "range" (by decide)) pe (star_cons hx))) fun σ H R z => ?_
  obtain ⟨ρ, h, σa, xx, r, w⟩ := z
  refine Lf.of (c.emono a) r w (XLe.refl _) fun y h1 ρ1 H1 v p1 m1 r1 v1 w1 => ?_
  simp only [wpEs, rngW] at w1
  split at w1
  · rename_i j e
    cases e
    cases v1
    obtain ⟨b, w1⟩ := w1
    have e : (j - 0).toNat = j.toNat := by omega
    refine ⟨_, rfl, by decide, by decide, b.1, b.2, ?_⟩
    rw [e]
    exact w1 _ _ _ p1 m1 r1.hr (by rw [rng_reverse]; exact wk_rngC)
  · rename_i e
    cases e
  · rename_i e
    cases e
  · exact w1.elim
end
/-! functions within functions -/
theorem rng_rel {ρ : List Addr} {H : Hp} {lo : Int} {n : Nat} : VRs M ρ H (rngA lo n) (rgL lo 1 n) := by
  have z : ∀ l : List Nat, VRs M ρ H (l.map fun i : Nat => A.int (lo + (i : Nat))) (l.map fun k : Nat => V.int (lo + (k : Int) * 1)) := by
    intro l
    induction l with
    | nil => exact .nil
    | cons a r ih =>
      refine .cons ?_ ih
      show VR M ρ H (A.int (lo + ↑a)) (V.int (lo + ↑a * 1))
      rw [Int.mul_one]
      exact .int _
  exact z _
theorem rngC_rel {ρ : List Addr} {H : Hp} {lo c : Int} {n : Nat} : VRs M ρ H (rngC lo c n) (rgL lo c n) := by
  have z : ∀ l : List Nat, VRs M ρ H (l.map fun i : Nat => A.int (lo + (i : Nat) * c)) (l.map fun k : Nat => V.int (lo + (k : Int) * c)) := by
    intro l
    induction l with
    | nil => exact .nil
    | cons a r ih => exact .cons (.int _) ih
  exact z _
section
variable {X : Cx} {sc : Scope} {W : Bool → WX} {xh : Xh} (c : Cok pg M g k N X sc none W)
include c
theorem e_listR {a : E} {as : Es} {x : Expr} {xs : List Expr} {p p2 pos pos2 : Pos} (h1 : Gsc sc ("list" : PySem.Str)) (h2 : Gsc sc ("range" : PySem.Str)) (hs : (x :: xs).all noStar = true) (pa : PA X (x :: xs) (LEs M pg g none xh W (.cons a as))) :
    PE X (.Call (.Name ("list" : PySem.Str) p) [.Call (.Name ("range" : PySem.Str) p2) (x :: xs) [] pos2] [] pos) (LE M pg g none xh W (.bx .listR (.cons a as))) := by
  rw [List.all_cons, Bool.and_eq_true] at hs
  refine PE.imp (pe_listR (c.calm rfl).1 (c.gl h1) (c.G.blt "list" (by decide)) (c.gl h2) (c.G.blt "range" (by decide)) pa (star_cons hs.1) (back_any hs.2) rfl) fun σ H Q z => ?_
  obtain ⟨ρ, h, σa, xx, r, w⟩ := z
  refine LfL.of (c.esmono (.cons a as)) r w (XLe.refl _) fun ys h1 ρ1 H1 vs p1 m1 r1 v1 w1 => ?_
  unfold bxW at w1
  split at w1 <;> first
    | contradiction
    | exact w1.elim
    | skip
  · obtain ⟨u, rfl, e⟩ := vrs1 v1
    cases e
    exact ⟨0, 1, _, .inl ⟨_, rfl, rfl, rfl, w1.1.1, w1.1.2, rfl⟩, w1.2.1, fun p np => Up.lst (show new h1 _ (Up M ρ1 H1 Q) from Up.mono p1 m1 _ _ w1.2.2) r1.hr np rng_rel⟩
  · obtain ⟨u, u2, rfl, e, e2⟩ := vrs2 v1
    cases e
    cases e2
    exact ⟨_, 1, _, .inr (.inl ⟨_, rfl, rfl, w1.1.1, w1.1.2, w1.2.1.1, w1.2.1.2, rfl⟩), w1.2.2.1, fun p np => Up.lst (show new h1 _ (Up M ρ1 H1 Q) from Up.mono p1 m1 _ _ w1.2.2.2) r1.hr np rng_rel⟩
  · obtain ⟨n, w0, w2, w3⟩ := w1
    cases v1 with
    | cons a1 v1 =>
      obtain ⟨u, u2, rfl, e, e2⟩ := vrs2 v1
      cases a1
      cases e
      cases e2
      exact ⟨_, _, n, .inr (.inr ⟨_, rfl, w0⟩), w2, fun p np => Up.lst (show new h1 _ (Up M ρ1 H1 Q) from Up.mono p1 m1 _ _ w3) r1.hr np rngC_rel⟩
theorem e_listRev {a : E} {x : Expr} {p p2 pos pos2 : Pos} (h1 : Gsc sc ("list" : PySem.Str)) (h2 : Gsc sc ("reversed" : PySem.Str)) (hs : noStar x = true) (pe : PE X x (LE M pg g none xh W a)) :
    PE X (.Call (.Name ("list" : PySem.Str) p) [.Call (.Name ("reversed" : PySem.Str) p2) [x] [] pos2] [] pos) (LE M pg g none xh W (.bx .listRev (.cons a .nil))) := by
  refine PE.imp (pe_listRev (c.calm rfl).1 (c.gl h1) (c.G.blt "list" (by decide)) (c.gl h2) (c.G.blt "reversed" (by decide)) pe (star_cons hs) rfl) fun σ H Q z => ?_
  obtain ⟨ρ, h, σa, xx, r, w⟩ := z
  refine Lf.of (c.emono a) r w (XLe.refl _) fun y h1 ρ1 H1 v p1 m1 r1 v1 w1 => ?_
  replace w1 : bxW .listRev [y] h1 (Up M ρ H Q) := w1
  cases v1 <;> first
    | exact w1.elim
    | skip
  · rename_i ea
    obtain ⟨xs, e, w1⟩ := w1
    obtain ⟨vs, g1, g2⟩ := r1.hr.lst e ea
    exact ⟨_, vs, rfl, SqL.of g1, fun p np => Up.lst (show new h1 _ (Up M ρ1 H1 Q) from Up.mono p1 m1 _ _ w1) r1.hr np g2.reverse⟩
theorem e_lenset {a : E} {x : Expr} {p p2 pos pos2 : Pos} (h1 : Gsc sc ("len" : PySem.Str)) (h2 : Gsc sc ("set" : PySem.Str)) (hs : noStar x = true) (pe : PE X x (LE M pg g none xh W a)) :
    PE X (.Call (.Name ("len" : PySem.Str) p) [.Call (.Name ("set" : PySem.Str) p2) [x] [] pos2] [] pos) (LE M pg g none xh W (.bx .lenset (.cons a .nil))) := by
  refine PE.imp (pe_lenSetS (c.calm rfl).1 (c.gl h1) (c.G.blt "len" (by decide)) (c.gl h2) (c.G.blt "set" (by decide)) pe (star_cons hs)) fun σ H Q z => ?_
  obtain ⟨ρ, h, σa, xx, r, w⟩ := z
  refine Lf.of (c.emono a) r w (XLe.refl _) fun y h1 ρ1 H1 v p1 m1 r1 v1 w1 => ?_
  have w1 : bxW .lenset [y] h1 (Up M ρ H Q) := w1
  have w1 : ∃ xs : List PySem.Str, sqW y h1 (xs.map A.str) ∧ xs.length ≤ 1000 ∧ Up M ρ H Q (.int (dcnt xs.reverse)) h1 := by cases y <;> exact w1
  obtain ⟨xs, e, hl, w1⟩ := w1
  obtain ⟨p, vs, rfl, g1, g2⟩ := sqW_of c.hK r1.hr v1 e
  obtain rfl := g2.strs
  exact ⟨_, xs, rfl, g1, hl, w1 _ _ _ p1 m1 r1.hr (.int _)⟩
end
/-! comprehensions -/
theorem wipe_in {σ : L2.St} {i : Nat} : ∀ {vs : List Nat}, i ∈ vs → (L2.wipe σ vs)[i]? = if i < σ.length then some none else none
  | j :: vs, h => by
    unfold L2.wipe
    rw [List.getElem?_set, wipe_length]
    by_cases e : j = i
    · subst e
      rw [if_pos rfl]
    · rw [if_neg e]
      rcases List.mem_cons.mp h with z | z
      · exact absurd z.symm e
      · exact wipe_in z
theorem wipe_idem (σ : L2.St) (vs : List Nat) : L2.wipe (L2.wipe σ vs) vs = L2.wipe σ vs := by
  apply List.ext_getElem?
  intro i
  by_cases h : i ∈ vs
  · rw [wipe_in h, wipe_in h, wipe_length]
  · rw [wipe_out h]
abbrev W0 : Bool → WX := fun _ _ _ _ _ => False
abbrev LC (M : Ad) (pg : Pg) (g : Fid → GQ) (xh : Xh) (e : E) : L2.TT := LfB M pg none xh W0 fun xx σ h Q _ => wpC (wpE pg g xx e) e σ h Q
theorem wpC_ne {t : WE} {hot : Hot} {sc : Scope} {e : E} {x : Expr} (h : TE N hot sc e x) {σ : SA} {h' : Hh} {Q : Bool → Hh → Prop} : wpC t e σ h' Q = t σ h' (fun x h1 => ∃ k, x = .bl k ∧ Q k h1) (fun _ _ _ _ => False) := by
  cases h <;> rfl
section
variable {X : Cx} {sc : Scope} {W : Bool → WX} {xh : Xh} (c : Cok pg M g k N X sc none W)
include c
theorem lc_of {vs : List Nat} {tg : Tg} {it : I} {d elt : E} (hin : tgIn vs tg = true) {σ : L2.St} {H : Hp} {Q : VK} (z : LE M pg g none xh W (.lc vs tg it d elt) σ H Q) :
    tLc (LI M pg g none xh W it) (LfG M tg) (LC M pg g xh d) (LE M pg g none xh W0 elt) vs σ H Q := by
  obtain ⟨ρ, h, σa, xx, r, w⟩ := z
  refine ⟨ρ, h, σa, xx, r, wpI_mono c.G.mono it (fun G xs h1 w1 ρ1 H1 J p1 m1 hr1 wk D nD => ?_) (XLe.refl _) w⟩
  let stp : A → Hh → (Option A → Hh → Prop) → Prop := fun x h2 R => tgW tg x (wipeA σa vs) fun σ2 => wpC (wpE pg g xx d) d σ2 h2 (fun k h3 => if k = true then wpE pg g xx elt σ2 h3 (fun y h4 => R (some y) h4) (fun _ _ _ _ => False) else R none h3)
  have w1 : lcA G h1.length stp (Up M ρ H Q (.ref h1.length)) xs (h1 ++ [.lst []]) := w1
  let Pv : Nat → Hp → Prop := fun i H2 => ∃ ρ2 h2, ρ1 ++ [D] <+: ρ2 ∧ Mo M.K H1 H2 ∧ HR M ρ2 h2 H2 ∧ lcA G h1.length stp (Up M ρ H Q (.ref h1.length)) (xs.drop i) h2
  have eD : (ρ1 ++ [D])[h1.length]? = some D := by
    rw [← hr1.len, List.getElem?_append_right (Nat.le_refl _), Nat.sub_self]
    rfl
  have p01 : ρ1 <+: ρ1 ++ [D] := List.prefix_append _ _
  refine ⟨fun i m H2 => m = xs.length - i ∧ i ≤ xs.length ∧ Pv i H2, ⟨xs.length, rfl, Nat.zero_le _, ρ1 ++ [D], h1 ++ [.lst []], List.prefix_refl _, Mo.new nD, hr1.new nD (.lst upd_same .nil), by rw [List.drop_zero]; exact w1⟩, ?_⟩
  rintro i m H2 ⟨rfl, hi, ρ2, h2, p2, m2, hr2, w2⟩
  have p12 := p01.trans p2
  have gd : gdOk G h2 := by
    cases hx : xs.drop i with
    | nil =>
      rw [hx] at w2
      exact w2.1
    | cons _ _ =>
      rw [hx] at w2
      exact w2.1
  obtain ⟨k1, k2, k3⟩ := wk ρ2 h2 H2 p12 m2 hr2 gd
  by_cases hlt : i < xs.length
  · refine .inr ⟨k1 i hlt, Pv (i + 1), fun H3 p => ⟨_, by omega, rfl, hlt, p⟩, fun x H3 hy => ?_⟩
    obtain ⟨m3, hr3, vr3⟩ := k3 i xs[i] x H3 (List.getElem?_eq_getElem hlt) hy
    rw [List.drop_eq_getElem_cons hlt] at w2
    have w3 := w2.2
    have m13 := m2.trans m3
    refine ⟨ρ2, h2, wipeA σa vs, xs[i], hr3, (r.sr.mono (p1.trans p12) (m1.trans m13)).wipe vs, vr3, tgW_mono tg (fun σ2 w4 σ' s' hw => ⟨?_, ?_⟩) w3⟩
    · rw [hw vs hin, wipe_idem]
    · refine ⟨ρ2, h2, σ2, xx, ⟨hr3, s', r.sx⟩, wpC_mono (c.emono d xx) d (fun kk h3 w5 ρ3 H4 p3 m4 hr4 => ?_) w4⟩
      cases kk with
      | false => exact ⟨ρ3, h3, p2.trans p3, m13.trans m4, hr4, w5⟩
      | true =>
        refine ⟨ρ3, h3, σ2, xx, ⟨hr4, s'.mono p3 m4, r.sx⟩, c.emono elt xx _ _ _ _ _ _ (fun y h4 w6 ρ4 H5 v p4 m5 hr5 vr5 => ?_) (fun _ _ _ _ z => z.elim) w5⟩
        obtain ⟨acc, ea, la, w6⟩ := w6
        have pp := p2.trans (p3.trans p4)
        have eD' := pre_get pp eD
        obtain ⟨us, g1, g2⟩ := hr5.lst ea eD'
        have mo : Mo M.K H5 (upd H5 D (.lst (us ++ [v]))) := hr5.moAt eD'
        refine ⟨us, g1, by rw [← g2.length]; exact la, ρ4, _, pp, ((m13.trans m4).trans m5).trans mo, hr5.put eD' (.lst upd_same ?_), w6⟩
        exact (g2.append (.cons vr5 .nil)).mono (List.prefix_refl _) mo
  · have e : i = xs.length := by omega
    subst e
    rw [List.drop_length] at w2
    exact .inl ⟨k2, w2.2 ρ2 H2 _ (p1.trans p12) (m1.trans m2) hr2 (.ref (pre_get p2 eD))⟩
theorem e_lc {scope : Scope} {own : List (PySem.Str × Nat)} {tg : Tg} {it : I} {d elt : E} {x tgE itE : Expr} {ifs : List Expr} {pos : Pos} (hb : blkC N sc scope own = true) (hin : tgIn (own.map (·.2)) tg = true) (pi : PI X tgE itE (LI M pg g none xh W it)) (hf : ∀ y, foldedSetIterable itE X.env y = pure y)
    (hg : ∀ (s : Shared) (H : Hp) (C : Addr) (cl : List (PySem.Str × Addr)) (fp : List Addr), PG (X.blk s H scope (compEnvC scope cl C X.env) fp) tgE (LfG M tg)) (ht : ∀ (s : Shared) (H : Hp) (C : Addr) (cl : List (PySem.Str × Addr)) (fp : List Addr), PTs (X.blk s H scope (compEnvC scope cl C X.env) fp) ifs (LC M pg g xh d))
    (he : ∀ (s : Shared) (H : Hp) (C : Addr) (cl : List (PySem.Str × Addr)) (fp : List Addr), PE (X.blk s H scope (compEnvC scope cl C X.env) fp) x (LE M pg g none xh W0 elt)) :
    PE X (.ListComp x [⟨tgE, itE, ifs, 0⟩] scope pos) (LE M pg g none xh W (.lc (own.map (·.2)) tg it d elt)) := by
  refine PE.imp (pe_lc (c.calm rfl).1 (by rw [c.hN]; exact c.nd) pi (by rw [c.hN, c.hsc]; exact blkOk_by hb) hg ht he hf) fun σ H Q z => ?_
  exact lc_of c hin z
end
end
end Z

/-! ### every expression -/
namespace Z
open PySem PySem.Spec PyProof.Rows L2
/-- the surroundings of an except suite -/
def Hok (N : List PySem.Str) (sc : Scope) (X : Cx) (hot : Hot) (xh : Xh) : Prop := match hot with
  | none => True
  | some o => ∃ (X0 : Cx) (oe : Obj) (pn : List (Addr × Obj)), X = X0.suite xh.a ((xh.a, oe) :: pn) ∧ Zc xh.c xh.d oe ∧ (∃ vs, oe.data = .fields vs) ∧ (o = none → xh.n = none) ∧ ∀ n, o = some n → ∃ i, xh.n = some i ∧ N[i]? = some n ∧ sc.names.lookup n = some .local ∧ (n == ("__debug__" : PySem.Str)) = false ∧ (n == ("__classdict__" : PySem.Str)) = false
section
variable {pg : Pg} {M : Ad} {g : Fid → GQ} {k : Nat} {N : List PySem.Str}
section
variable {X : Cx} {sc : Scope} {W : Bool → WX} {xh : Xh} {n : PySem.Str} (c : Cok pg M g k N X sc (some (some n)) W) (hk : Hok N sc X (some (some n)) xh)
include c hk
theorem e_xfld {f : String} {p pos : Pos} : PE X (.Attribute (.Name n p) (st f) pos) (LE M pg g (some (some n)) xh W (.xfld f)) := by
  obtain ⟨X0, oe, pn, hX, hz, hd, _, hn⟩ := hk
  obtain ⟨i, e1, e2, e3, e4, e5⟩ := hn n rfl
  constructor
  intro pins s σ H Q I z
  obtain ⟨ρ, h, σa, xx, r, cc, fs, fl, v, ex, el, ef, ev, q⟩ := z
  obtain ⟨⟨c2, fl2, fs2, Ca, dd, ws, g1, g2, g3, g4, g5, g6, g7⟩, gn⟩ := r.sx
  rw [g1] at ex
  cases ex
  obtain ⟨Ca2, k1, E⟩ := c.G.er _ _ el
  rw [g4] at k1
  cases k1
  obtain ⟨u, lu, ru⟩ := g7.lookup ev
  have pv : PE X (.Name n p) (tVar i) := pe_var (by rw [c.hN]; exact e2) (by rw [c.hsc]; exact .inl e3) e4 e5
  have hK : M.K = X0.K := by
    rw [c.hK, hX]
  subst hX
  have px := pe_xf (X := X0) (a := xh.a) (C := Ca) (oe := oe) (cls := xh.c) (d := xh.d) (pn := pn) (n := st f) (pos := pos) (hK ▸ E.xf) (hK ▸ E.noF f (by simpa using ef)) hz hd pv
  exact px.run pins s σ H Q I ⟨_, gn i e1, rfl, g3, dd, ws, u, g5, g6, lu, q.now r.hr ru⟩
theorem e_xis {ds : List String} {cl : Expr} {p p2 pos : Pos} (hg : Gsc sc ("isinstance" : PySem.Str)) (hcl : TCl sc ds cl) : PE X (.Call (.Name ("isinstance" : PySem.Str) p) [.Name n p2, cl] [] pos) (LE M pg g (some (some n)) xh W (.xis ds)) := by
  by_cases hcn : ds.all pg.cn = true
  · have hall : ∀ s ∈ ds, (clsV M s).isSome = true := fun s m => c.G.cn s (List.all_eq_true.mp hcn s m)
    obtain ⟨X0, oe, pn, hX, hz, hd, _, hn⟩ := hk
    obtain ⟨i, e1, e2, e3, e4, e5⟩ := hn n rfl
    have pv : PE X (.Name n p2) (tVar i) := pe_var (by rw [c.hN]; exact e2) (by rw [c.hsc]; exact .inl e3) e4 e5
    -- the error as it lies there
    have lies : ∀ {pins : List (Addr × Obj)} {s : Shared} {σ : L2.St} {H : Hp} {cc : String} {fl : List String} {Ca dd : Addr} {ws : List (PySem.Str × V)} {us : List Value}, Inv X pins σ H s → pg.er cc = some fl → xh.c = .ref Ca → M.cl cc = some Ca → xh.d = some dd → H dd = some (.xd ws) → Paired (fun s u => ∃ v, clsV M s = some (v, u)) ds us →
        ∃ od : Option Obj, PySem.W.InstAt s.heap xh.a oe Ca od ∧ (∃ J : Heap → Prop, J s.heap ∧ PySem.W.KitX X.K (.ref xh.a) (.ref Ca) J) ∧ PySem.W.kitAny X.K (.ref Ca) us = some (ds.any (isB pg cc)) := by
      intro pins s σ H cc fl Ca dd ws us I el g3 g4 g5 g6 pr
      obtain ⟨Ca2, k1, E⟩ := c.G.er _ _ el
      rw [g4] at k1
      cases k1
      have ki := kit_any (paired_mem (fun s u hs (z : ∃ v, clsV M s = some (v, u)) => z.elim fun v ev => c.G.kit cc Ca s v u (List.all_eq_true.mp hcn s hs) g4 ev) pr)
      rw [c.hK] at ki E
      subst hX
      obtain ⟨hget, _⟩ := I.pin (xh.a, oe) (List.mem_append.mpr (.inl List.mem_cons_self))
      obtain ⟨vs, hv⟩ := hd
      obtain ⟨mA, hns, _⟩ := (show ObjOk X0.prog X0.w H s.heap dd (.xd ws) from I.hok dd _ g6)
      obtain ⟨od, ho, _⟩ := lookIn_ns hns
      have J : PySem.W.InstAt s.heap xh.a oe Ca (some od) := ⟨hget, hz.1.trans g3, by unfold PySem.W.notCls; rw [hv] <;> rfl, by rw [hz.2, g5]; exact ho⟩
      have Z := PySem.W.kitx_exc (K := X0.K) (x := xh.a) (C := Ca) (ox := oe) (od := some od) E.hcl E.xf.ga E.xf.gg E.xf.exC E.ha E.hn E.ht E.hm
      exact ⟨some od, J, ⟨_, J, Z⟩, ki⟩
    cases hcl with
    | @one cc0 _ h1 =>
      obtain ⟨vs, us, pa, pv', pr, hns, _⟩ := TCs.rel c h1 hall
      cases pr with
      | @cons _ u _ _ e0 t0 =>
        cases t0
        cases pv' with
        | @cons v _ _ _ k0 t1 =>
          cases t1
          rw [List.all_cons, List.all_nil, Bool.and_true] at hns
          have call : CallR X (.builtin "isinstance") (fun xs H Q => ∃ (cc : String) (fl : List String) (Ca dd : Addr) (ws : List (PySem.Str × V)), xs = [.ref xh.a, v] ∧ pg.er cc = some fl ∧ xh.c = .ref Ca ∧ M.cl cc = some Ca ∧ xh.d = some dd ∧ H dd = some (.xd ws) ∧ Q (.bl ([cc0].any (isB pg cc))) H) := by
            intro pins s σ H xs us Q I r h
            obtain ⟨cc, fl, Ca, dd, ws, rfl, el, g3, g4, g5, g6, q⟩ := h
            obtain ⟨u1, u2, rfl, r1, r2⟩ := vals2 r
            have w1 : u1 = Value.ref xh.a := r1
            have w2 := k0.eq r2
            subst w1 w2
            obtain ⟨od, _, ⟨J, hJ, Z⟩, ki⟩ := lies I el g3 g4 g5 g6 (.cons e0 .nil)
            have ki1 : PySem.W.kitOne X.K (.ref Ca) u2 = some ([cc0].any (isB pg cc)) := by
              unfold PySem.W.kitAny at ki
              cases kk : PySem.W.kitOne X.K (.ref Ca) u2 with
              | none => rw [kk] at ki; cases ki
              | some b =>
                rw [kk] at ki
                cases b with
                | true => exact ki
                | false => exact ki
            exact PySem.W.kia_one Z I.kIn hJ ki1 (fun z => nomatch z) fun tk => ⟨.bl _, H, I.kept (t' := tk) fun _ _ z => z, rfl, q⟩
          have pa2 : PA X [.Name n p2, cl] (tCons (tVar i) fun _ H Q => Q [v] H) := pa_cons pv pa rfl
          refine PE.imp (pe_callB call (c.gl hg) (c.G.blt "isinstance" (by decide)) PyProof.Rows.boot_isinstance pa2 (by decide) (by decide) rfl (back_any (by rw [List.all_cons, hns]; rfl))) fun σ H Q z => ?_
          obtain ⟨ρ, h, σa, xx, r, _, cc, fs, ex, q⟩ := z
          obtain ⟨⟨c2, fl2, fs2, Ca, dd, ws, g1, g2, g3, g4, g5, g6, g7⟩, gn⟩ := r.sx
          rw [g1] at ex
          cases ex
          exact ⟨_, gn i e1, _, _, Ca, dd, ws, rfl, g2, g3, g4, g5, g6, q.now r.hr (.bl _)⟩
    | @many _ es kk tq h1 hlen =>
      obtain ⟨vs, us, pa, pv', pr, hns, hl⟩ := TCs.rel c h1 hall
      have call : CallR X (.builtin "isinstance") (fun xs H Q => ∃ (cc : String) (fl : List String) (Ca dd tp : Addr) (ws : List (PySem.Str × V)), xs = [.ref xh.a, .ref tp] ∧ H tp = some (.tup vs) ∧ pg.er cc = some fl ∧ xh.c = .ref Ca ∧ M.cl cc = some Ca ∧ xh.d = some dd ∧ H dd = some (.xd ws) ∧ Q (.bl (ds.any (isB pg cc))) H) := by
        intro pins s σ H xs us2 Q I r h
        obtain ⟨cc, fl, Ca, dd, tp, ws, rfl, hT, el, g3, g4, g5, g6, q⟩ := h
        obtain ⟨u1, u2, rfl, r1, r2⟩ := vals2 r
        have w1 : u1 = Value.ref xh.a := r1
        have w2 : u2 = Value.ref tp := r2
        subst w1 w2
        obtain ⟨od, _, ⟨J, hJ, Z⟩, ki⟩ := lies I el g3 g4 g5 g6 pr
        obtain ⟨_, its, rv, o, h1, h2, n, h3⟩ := (show ObjOk X.prog X.w H s.heap tp (.tup vs) from I.hok tp _ hT)
        have e3 := ClsV.all pv' rv
        subst e3
        obtain ⟨oc, od2, dt, sl⟩ := o
        simp only at h2 h3
        subst h2 h3
        exact PySem.W.kia_tup Z I.kIn hJ h1 ki (fun z => nomatch z) fun tk => ⟨.bl _, H, I.kept (t' := tk) fun _ _ z => z, rfl, q⟩
      have pa2 : PA X [.Name n p2, .Tuple es kk tq] (tCons (tVar i) (tCons (tTup fun _ H Q => Q vs H) tNil)) := pa_cons pv (pa_cons (pe_tup pa) pa_nil (star_cons rfl)) rfl
      refine PE.imp (pe_callB call (c.gl hg) (c.G.blt "isinstance" (by decide)) PyProof.Rows.boot_isinstance pa2 (by decide) (by decide) rfl rfl) fun σ H Q z => ?_
      obtain ⟨ρ, h, σa, xx, r, _, cc, fs, ex, q⟩ := z
      obtain ⟨⟨c2, fl2, fs2, Ca, dd, ws, g1, g2, g3, g4, g5, g6, g7⟩, gn⟩ := r.sx
      rw [g1] at ex
      cases ex
      refine ⟨_, gn i e1, ?_, fun tp ntp => ?_⟩
      · rw [hl]
        exact Nat.le_trans hlen (by decide)
      · have mo : Mo M.K H (upd H tp (.tup vs)) := Mo.new ntp
        exact ⟨_, _, Ca, dd, tp, ws, rfl, upd_same, g2, g3, g4, g5, mo.xd _ _ g6, q _ _ _ (List.prefix_refl _) mo (r.hr.other ntp) (.bl _)⟩
  · refine ⟨fun pins s σ H Q I z => ?_⟩
    obtain ⟨ρ, h, σa, xx, r, e, w⟩ := z
    exact absurd e hcn
end
end
end Z

/-! ### every expression: by its parts -/
namespace Z
open PySem PySem.Spec PyProof.Rows L2
section
variable {pg : Pg} {M : Ad} {g : Fid → GQ} {k : Nat} {N : List PySem.Str}
def plainE : E → Bool
  | .and _ => false | .or _ => false | .not _ => false | .ite _ _ _ => false | .cmp _ _ _ => false | .ch2 _ _ _ _ _ => false | .ch3 _ _ _ _ _ _ _ => false | _ => true
theorem plain_TE {hot : Hot} {sc : Scope} {c : E} {e : Expr} (t : TE N hot sc c e) (h : plainE c = true) : plainT e = true := by
  cases t <;> first
    | rfl
    | cases h
structure BothE (pg : Pg) (M : Ad) (g : Fid → GQ) (hot : Hot) (xh : Xh) (X : Cx) (W : Bool → WX) (c : E) (ex : Expr) : Prop where
  e : PE X ex (LE M pg g hot xh W c)
  t : PT X ex (LB M pg g hot xh W c)
structure BothL (pg : Pg) (M : Ad) (g : Fid → GQ) (hot : Hot) (xh : Xh) (X : Cx) (W : Bool → WX) (c : Es) (e : List Expr) : Prop where
  a : PA X e (LEs M pg g hot xh W c)
  ae : ∀ pos, PE X (.BoolOp .And e pos) (LA M pg g hot xh W false c)
  oe : ∀ pos, PE X (.BoolOp .Or e pos) (LA M pg g hot xh W true c)
  at' : ∀ pos, PW X (.BoolOp .And e pos) (LAB M pg g hot xh W false c)
  ot : ∀ pos, PW X (.BoolOp .Or e pos) (LAB M pg g hot xh W true c)
theorem dsp_kr {ρ : List Addr} {H : Hp} : ∀ {ks : List PySem.Str} {ys : List A} {vs : List V}, VRs M ρ H ys vs → ∀ {kvs : List (Key × A)} {ws : List (Key × V)}, KR M ρ H kvs ws → KR M ρ H ((ks.zip ys).foldl (fun acc p => putD (Sum.inr p.1) p.2 acc) kvs) (L2.mergeK ws ((ks.zip vs).map fun p => ((Sum.inr p.1 : Key), p.2)))
  | [], _, _, _, _, _, r => by
    rw [List.zip_nil_left, List.zip_nil_left]
    exact r
  | _ :: _, [], _, h, _, _, r => by
    cases h
    rw [List.zip_nil_right, List.zip_nil_right]
    exact r
  | k :: ks, y :: ys, _, h, _, _, r => by
    cases h with
    | cons hv ht =>
      rw [List.zip_cons_cons, List.zip_cons_cons, List.foldl_cons, List.map_cons]
      exact dsp_kr ht (KR.putK hv r)
theorem dsp_ps : ∀ (ks : List PySem.Str) (vs : List V), (ks.map V.str).zip vs = (((ks.zip vs).map fun p => ((Sum.inr p.1 : Key), p.2)).map fun kv => (kV kv.1, kv.2))
  | [], _ => rfl
  | _ :: _, [] => rfl
  | k :: ks, v :: vs => by
    rw [List.map_cons, List.zip_cons_cons, dsp_ps ks vs]
    rfl
theorem KsE.len : ∀ {ks : List PySem.Str} {ps : List (Option Expr)}, KsE ks ps → ks.length = ps.length
  | _, _, .nil => rfl
  | _, _, .cons t => congrArg Nat.succ t.len
theorem KsE.all : ∀ {ks : List PySem.Str} {ps : List (Option Expr)}, KsE ks ps → ps.all (·.isSome) = true
  | _, _, .nil => rfl
  | _, _, .cons t => by rw [List.all_cons, t.all]; rfl
section
variable {X : Cx} {sc : Scope} {hot : Hot} {W : Bool → WX} {xh : Xh} (c : Cok pg M g k N X sc hot W)
include c
theorem cons_of {a : E} {as : Es} {σ : L2.St} {H : Hp} {Q : List V → Hp → Prop} (z : LEs M pg g hot xh W (.cons a as) σ H Q) : tCons (LE M pg g hot xh W a) (LEs M pg g hot xh W as) σ H Q := by
  obtain ⟨ρ, h, σa, xx, r, w⟩ := z
  refine Lf.of (c.emono a) r w (XLe.refl _) fun y h1 ρ1 H1 v p1 m1 r1 v1 w1 => ?_
  refine LfL.of (c.esmono as) r1 w1 (UpX.mono p1 m1) fun ys h2 ρ2 H2 vs p2 m2 r2 v2 w2 => ?_
  exact w2 _ _ _ (p1.trans p2) (m1.trans m2) r2.hr (.cons (v1.mono p2 m2) v2)
theorem e_dsp {ks : List PySem.Str} {as : Es} {ps : List (Option Expr)} {xs : List Expr} {pos : Pos} (pp : ∃ trs, PPs X pos ps xs trs ∧ ∀ σ H Q, LEs M pg g hot xh W as σ H (fun ys H' => Q ((ks.map V.str).zip ys) H') → tPairs trs σ H Q)
    (hk : ks.length = ps.length) (hall : ps.all (·.isSome) = true) (hl : ps.length = xs.length) (h0 : ps ≠ []) (h15 : ps.length ≤ 15) : PE X (.Dict ps xs pos) (LE M pg g hot xh W (.dsp ks as)) := by
  obtain ⟨trs, p, q⟩ := pp
  refine PE.imp (pe_disp p hall hl h0 h15) fun σ H Q z => ?_
  intro a na
  obtain ⟨ρ, h, σa, xx, r, w⟩ := z
  refine q _ _ _ ?_
  have m : Mo M.K H (upd H a (.dK [])) := Mo.new na
  have pr : ρ <+: ρ ++ [a] := List.prefix_append _ _
  have r1 := r.mono pr m (r.hr.new na (.dK upd_same .nil))
  refine LfL.of (c.esmono as) r1 w (UpX.mono pr m) fun ys h2 ρ2 H2 vs p2 m2 r2 v2 w2 => ?_
  obtain ⟨e1, e2, w2⟩ := w2
  have eD : (ρ ++ [a])[h.length]? = some a := by
    rw [← r.hr.len, List.getElem?_append_right (Nat.le_refl _), Nat.sub_self]
    rfl
  have eD2 := pre_get p2 eD
  have ob := r2.hr.ob h.length a _ eD2 e1
  cases ob with
  | dK g1 g2 =>
    cases g2
    refine ⟨g1, (ks.zip vs).map fun p => ((Sum.inr p.1 : Key), p.2), dsp_ps ks vs, ?_, ?_⟩
    · rw [List.length_map, List.length_zip]
      omega
    · have mo : Mo M.K H2 (upd H2 a (.dK (L2.mergeK [] ((ks.zip vs).map fun p => ((Sum.inr p.1 : Key), p.2))))) := r2.hr.moAt eD2
      exact w2 ρ2 _ _ (pr.trans p2) (m.trans (m2.trans mo)) (r2.hr.put eD2 (.dK upd_same (KR.mono (List.prefix_refl _) mo (dsp_kr v2 .nil)))) (.ref eD2)
theorem l_nil : BothL pg M g hot xh X W .nil [] := by
  refine ⟨PA.imp pa_nil fun σ H Q z => ?_, fun pos => ⟨fun pins s σ H Q I z => ?_⟩, fun pos => ⟨fun pins s σ H Q I z => ?_⟩, fun pos => ⟨fun wh pins s σ H Q I z => ?_⟩, fun pos => ⟨fun wh pins s σ H Q I z => ?_⟩⟩
  · obtain ⟨ρ, h, σa, xx, r, w⟩ := z
    exact w _ _ _ (List.prefix_refl _) Mo.refl r.hr .nil
  all_goals
    obtain ⟨ρ, h, σa, xx, r, w⟩ := z
    exact False.elim w
theorem l_cons {a : E} {as : Es} {x : Expr} {xs : List Expr} (t1 : TE N hot sc a x) (t2 : TEs N hot sc as xs) (p : BothE pg M g hot xh X W a x) (q : BothL pg M g hot xh X W as xs) : BothL pg M g hot xh X W (.cons a as) (x :: xs) := by
  have pa : PA X (x :: xs) (LEs M pg g hot xh W (.cons a as)) := PA.imp (pa_cons p.e q.a (star_cons t1.star)) fun _ _ _ z => cons_of c z
  cases t2 with
  | nil => exact ⟨pa, fun _ => e_and1 c p.e, fun _ => e_or1 c p.e, fun _ => t_and1 c p.t, fun _ => t_or1 c p.t⟩
  | cons t3 t4 => exact ⟨pa, fun _ => e_and2 c p.e (q.ae _), fun _ => e_or2 c p.e (q.oe _), fun _ => t_and2 c p.t (q.at' _), fun _ => t_or2 c p.t (q.ot _)⟩
end
section
variable {X : Cx} {sc : Scope} {W : Bool → WX} {xh : Xh} (c : Cok pg M g k N X sc none W)
include c
theorem c_no : PTs X [] (LC M pg g xh .no) := by
  refine ⟨fun pins s σ H Q I z => pts_nil.run pins s σ H Q I ?_⟩
  obtain ⟨ρ, h, σa, xx, r, w⟩ := z
  exact w _ _ (List.prefix_refl _) Mo.refl r.hr
end
theorem c_one {X : Cx} {sc : Scope} {xh : Xh} (c : Cok pg M g k N X sc none W0) {a : E} {x : Expr} (t : TE N none sc a x) (p : PT X x (LB M pg g none xh W0 a)) : PTs X [x] (LC M pg g xh a) := by
  refine ⟨fun pins s σ H Q I z => (pts_one p).run pins s σ H Q I ?_⟩
  obtain ⟨ρ, h, σa, xx, r, w⟩ := z
  rw [wpC_ne t] at w
  exact ⟨ρ, h, σa, xx, r, c.emono a _ _ _ _ _ _ _ (fun _ _ z => z) (fun _ _ _ _ z => z.elim) w⟩
mutual
theorem sE {hot : Hot} {sc : Scope} {c : E} {e : Expr} (t : TE N hot sc c e) {X : Cx} {W : Bool → WX} {xh : Xh} (ok : Cok pg M g k N X sc hot W) (hk : Hok N sc X hot xh) : BothE pg M g hot xh X W c e := by
  have fin : ∀ (c' : E) (e' : Expr), TE N hot sc c' e' → plainE c' = true → PE X e' (LE M pg g hot xh W c') → BothE pg M g hot xh X W c' e' := fun c' e' t h p => ⟨p, t_plain ok p (plain_TE t h)⟩
  match t with
  | .var h1 h2 h3 h4 => exact fin _ _ (.var h1 h2 h3 h4) rfl (e_var ok h1 h2 h3 h4)
  | .int => exact fin _ _ .int rfl (e_cst ok pe_int fun _ _ => .int _)
  | .str => exact fin _ _ .str rfl (e_cst ok pe_str fun _ _ => .str _)
  | .bl => exact fin _ _ .bl rfl (e_cst ok pe_bl fun _ _ => .bl _)
  | .non => exact fin _ _ .non rfl (e_cst ok pe_non fun _ _ => .non)
  | .glob h1 h2 => exact fin _ _ (.glob h1 h2) rfl (e_glob ok h1 h2)
  | .bin t1 t2 => exact fin _ _ (.bin t1 t2) rfl (e_bin ok (sE t1 ok hk).e (sE t2 ok hk).e)
  | .cmp t1 t2 => exact ⟨e_cmp ok (sE t1 ok hk).e (sE t2 ok hk).e (t2.marks _), t_cmp ok (sE t1 ok hk).e (sE t2 ok hk).e (t2.marks _)⟩
  | .ch2 t1 t2 t3 => exact ⟨e_ch2 ok (sE t1 ok hk).e (sE t2 ok hk).e (sE t3 ok hk).e (t3.marks _), t_ch2 ok (sE t1 ok hk).e (sE t2 ok hk).e (sE t3 ok hk).e (t3.marks _)⟩
  | .ch3 t1 t2 t3 t4 => exact ⟨e_ch3 ok (sE t1 ok hk).e (sE t2 ok hk).e (sE t3 ok hk).e (sE t4 ok hk).e (t4.marks _), t_ch3 ok (sE t1 ok hk).e (sE t2 ok hk).e (sE t3 ok hk).e (sE t4 ok hk).e (t4.marks _)⟩
  | .neg t1 => exact fin _ _ (.neg t1) rfl (e_neg ok (sE t1 ok hk).e)
  | .and t1 =>
    have z := sEs t1 ok hk
    exact ⟨z.ae _, PT.imp (z.at' _).pt fun _ _ _ z => z⟩
  | .or t1 =>
    have z := sEs t1 ok hk
    exact ⟨z.oe _, PT.imp (z.ot _).pt fun _ _ _ z => z⟩
  | .not t1 => exact ⟨e_not ok (sE t1 ok hk).e, t_not ok (sE t1 ok hk).t⟩
  | .ite t1 t2 t3 => exact ⟨e_ite ok (sE t1 ok hk).t (sE t2 ok hk).e (sE t3 ok hk).e, t_ite ok (sE t1 ok hk).t (sE t2 ok hk).t (sE t3 ok hk).t⟩
  | .idx t1 t2 => exact fin _ _ (.idx t1 t2) rfl (e_idx ok (sE t1 ok hk).e (sE t2 ok hk).e t2.plainIx)
  | .slc t1 t2 t3 => exact fin _ _ (.slc t1 t2 t3) rfl (e_slc ok (sE t1 ok hk).e (sO t2 ok hk) (sO t3 ok hk))
  | .rev t1 => exact fin _ _ (.rev t1) rfl (e_rev ok (sE t1 ok hk).e)
  | .tup t1 => exact fin _ _ (.tup t1) rfl (e_tup ok (sEs t1 ok hk).a)
  | .lst t1 => exact fin _ _ (.lst t1) rfl (e_lst ok (sEs t1 ok hk).a)
  | .dnew => exact fin _ _ .dnew rfl (e_dnew ok)
  | .dsp h1 h2 h3 h4 t1 => exact fin _ _ (.dsp h1 h2 h3 h4 t1) rfl (e_dsp ok (sPs t1 ok hk h1 h2 _) h1.len h1.all h2 h3 h4)
  | .call h1 h2 h3 t1 => exact fin _ _ (.call h1 h2 h3 t1) rfl (e_call ok h1 h2 t1 (sEs t1 ok hk).a)
  | .blt h1 h2 h3 t1 t2 => exact fin _ _ (.blt h1 h2 h3 t1 t2) rfl (e_blt ok h1 h2 h3 (PA.imp (pa_cons (sE t1 ok hk).e (sEs t2 ok hk).a (star_cons t1.star)) fun _ _ _ z => cons_of ok z) (TEs.star (.cons t1 t2)))
  | .isi h1 t1 h2 => exact fin _ _ (.isi h1 t1 h2) rfl (e_isi ok h1 (sE t1 ok hk).e t1.star h2)
  | .meth t1 t2 h1 h2 => exact fin _ _ (.meth t1 t2 h1 h2) rfl (e_meth ok (sE t1 ok hk).e (t1.base _ _) t2 h1 h2 (sEs t2 ok hk).a)
  | .bm t1 t2 h1 h2 h3 => exact fin _ _ (.bm t1 t2 h1 h2 h3) rfl (e_bm ok h3 (sE t1 ok hk).e (t1.base _ _) t2 h1 h2 (sEs t2 ok hk).a)
  | .mk h1 h2 h3 t1 => exact fin _ _ (.mk h1 h2 h3 t1) rfl (e_mk ok h1 h2 t1 (sEs t1 ok hk).a)
  | .fld t1 => exact fin _ _ (.fld t1) rfl (e_fld ok (sE t1 ok hk).e (t1.base _ _))
  | .lc h1 h2 t1 t2 t3 t4 => exact fin _ _ (.lc h1 h2 t1 t2 t3 t4) rfl (e_lc ok h1 h2 (sI t1 ok hk) (fun y => t1.folded _ y) (fun s H C cl fp => sG (b := some _) (ok.blk s H _ C cl fp) (fun _ z => z) t2) (fun s H C cl fp => sC t3 (ok.blk s H _ C cl fp)) (fun s H C cl fp => (sE t4 (ok.blk s H _ C cl fp) trivial).e))
  | .xfld => exact fin _ _ .xfld rfl (e_xfld ok hk)
  | .xis h1 h2 => exact fin _ _ (.xis h1 h2) rfl (e_xis ok hk h1 h2)
  | .fnv h1 h2 => exact fin _ _ (.fnv h1 h2) rfl (e_fnv ok h1 h2)
  | .tix t1 t2 h1 => exact fin _ _ (.tix t1 t2 h1) rfl (e_tix ok (sE t1 ok hk).e (t1.base _ _) (sE t2 ok hk).e t2.star h1)
  | .callv h1 h2 h3 h4 t1 t2 => exact fin _ _ (.callv h1 h2 h3 h4 t1 t2) rfl (e_callv ok h1 h2 h3 h4 (TEs.star (.cons t1 t2)) (PA.imp (pa_cons (sE t1 ok hk).e (sEs t2 ok hk).a (star_cons t1.star)) fun _ _ _ z => cons_of ok z))
  | .listR h1 h2 t1 t2 => exact fin _ _ (.listR h1 h2 t1 t2) rfl (e_listR ok h1 h2 (TEs.star (.cons t1 t2)) (PA.imp (pa_cons (sE t1 ok hk).e (sEs t2 ok hk).a (star_cons t1.star)) fun _ _ _ z => cons_of ok z))
  | .listRev h1 h2 t1 => exact fin _ _ (.listRev h1 h2 t1) rfl (e_listRev ok h1 h2 t1.star (sE t1 ok hk).e)
  | .lenset h1 h2 t1 => exact fin _ _ (.lenset h1 h2 t1) rfl (e_lenset ok h1 h2 t1.star (sE t1 ok hk).e)
theorem sO {hot : Hot} {sc : Scope} {c : E} {e : Option Expr} (t : TO N hot sc c e) {X : Cx} {W : Bool → WX} {xh : Xh} (ok : Cok pg M g k N X sc hot W) (hk : Hok N sc X hot xh) : PO X e (LO M pg g hot xh W c) := by
  match t with
  | .no => exact o_no ok
  | .some t1 => exact o_some ok t1 (sE t1 ok hk).e
theorem sC {sc : Scope} {c : E} {e : List Expr} (t : TC N sc c e) {X : Cx} {xh : Xh} (ok : Cok pg M g k N X sc none W0) : PTs X e (LC M pg g xh c) := by
  match t with
  | .no => exact c_no ok
  | .one t1 => exact c_one ok t1 (sE t1 ok trivial).t
theorem sEs {hot : Hot} {sc : Scope} {c : Es} {e : List Expr} (t : TEs N hot sc c e) {X : Cx} {W : Bool → WX} {xh : Xh} (ok : Cok pg M g k N X sc hot W) (hk : Hok N sc X hot xh) : BothL pg M g hot xh X W c e := by
  match t with
  | .nil => exact l_nil ok
  | .cons t1 t2 => exact l_cons ok t1 t2 (sE t1 ok hk) (sEs t2 ok hk)
theorem sPs {hot : Hot} {sc : Scope} {c : Es} {e : List Expr} (t : TEs N hot sc c e) {X : Cx} {W : Bool → WX} {xh : Xh} (ok : Cok pg M g k N X sc hot W) (hk : Hok N sc X hot xh) {ks : List PySem.Str} {ps : List (Option Expr)} (kk : KsE ks ps) (hl : ps.length = e.length) (pos : Pos) : ∃ trs, PPs X pos ps e trs ∧ ∀ σ H Q, LEs M pg g hot xh W c σ H (fun ys H' => Q ((ks.map V.str).zip ys) H') → tPairs trs σ H Q := by
  match t, kk, hl with
  | .nil, .nil, _ => exact ⟨[], pps_nil, fun σ H Q z => by
      obtain ⟨ρ, h, σa, xx, r, w⟩ := z
      exact w _ _ _ (List.prefix_refl _) Mo.refl r.hr .nil⟩
  | .cons t1 t2, .cons kk2, hl =>
    obtain ⟨trs, p, q⟩ := sPs t2 ok hk kk2 (Nat.succ.inj hl) pos
    refine ⟨_, pps_cons pe_str (sE t1 ok hk).e p, fun σ H Q z => ?_⟩
    obtain ⟨ρ, h, σa, xx, r, w⟩ := z
    refine Lf.of (ok.emono _) r w (XLe.refl _) fun y h1 ρ1 H1 v p1 m1 r1 v1 w1 => ?_
    refine q _ _ _ ?_
    refine LfL.of (ok.esmono _) r1 w1 (UpX.mono p1 m1) fun ys h2 ρ2 H2 vs p2 m2 r2 v2 w2 => ?_
    exact w2 _ _ _ (p1.trans p2) (m1.trans m2) r2.hr (.cons (v1.mono p2 m2) v2)
  | .nil, .cons _, hl => cases hl
  | .cons _ _, .nil, hl => cases hl
theorem sI {hot : Hot} {sc : Scope} {c : I} {tg e : Expr} (t : TI N hot sc c tg e) {X : Cx} {W : Bool → WX} {xh : Xh} (ok : Cok pg M g k N X sc hot W) (hk : Hok N sc X hot xh) : PI X tg e (LI M pg g hot xh W c) := by
  match t with
  | .ex t1 => exact i_ex ok (sE t1 ok hk).e
  | .rng h1 h2 t1 => exact i_rng ok h1 h2 t1 (sEs t1 ok hk).a
  | .enm h1 t1 => exact i_enm ok h1 t1.star (sE t1 ok hk).e
  | .zip h1 t1 t2 => exact i_zip ok h1 t1.star t2.star (sE t1 ok hk).e (sE t2 ok hk).e
  | .rev h1 t1 => exact i_rev ok h1 t1.star (sE t1 ok hk).e
  | .revR h1 h2 t1 => exact i_revR ok h1 h2 t1.star (sE t1 ok hk).e
end
end
end Z

/-! ### statements, one by one -/
namespace Z
open PySem PySem.Spec PyProof.Rows L2
/-- the surroundings of a statement -/
structure Sok (pg : Pg) (M : Ad) (g : Fid → GQ) (k : Nat) (N : List PySem.Str) (X : Cx) (sc : Scope) (hot : Hot) (W : Bool → WX) : Prop where
  c : Cok pg M g k N X sc hot W
  fn : ∀ x, X.fn x = true
  hp : hot = none → PassesOwn (model X.prog X.w) X.A X.env X.xe
  ha : hot = none → ∀ hd : Option Value, PassesOwnAt (model X.prog X.w) (X.A.mark hd) X.A X.env X.xe
  hs : X.stack = X.env :: X.outer
  hf : X.env.frame = some X.env.locals
  kd : sc.kind = .function
section
variable (M : Ad) (pg : Pg) (hot : Hot) (x : Xh) (ρ : List Addr) (H : Hp) (xx : Xx)
def UpN (Q : L2.St → Hp → Prop) : SA → Hh → Prop := fun σa' h' => ∀ ρ' H' σ', ρ <+: ρ' → Mo M.K H H' → Rl M pg hot x ρ' h' H' σa' xx σ' → Q σ' H'
def UpE (D : Ends) : En := ⟨UpN M pg hot x ρ H xx D.nx, Up M ρ H D.rt, UpN M pg hot x ρ H xx D.bk, UpN M pg hot x ρ H xx D.ct⟩
def UpW (W : Bool → WX) : XS := fun b c fs σa' h' => ∀ ρ' H' σ' C d ws, ρ <+: ρ' → Mo M.K H H' → Rl M pg hot x ρ' h' H' σa' xx σ' → M.cl c = some C → H' d = some (.xd ws) → FR M ρ' H' fs ws → W b (.ref C) (some d) σ' H'
end
section
variable {M : Ad} {pg : Pg} {hot : Hot} {x : Xh} {ρ ρ1 : List Addr} {H H1 : Hp} {xx : Xx} {W : Bool → WX}
theorem UpN.mono {Q : L2.St → Hp → Prop} (p : ρ <+: ρ1) (m : Mo M.K H H1) (a : SA) (h : Hh) (q : UpN M pg hot x ρ H xx Q a h) : UpN M pg hot x ρ1 H1 xx Q a h := fun ρ' H' σ' p' m' r => q ρ' H' σ' (p.trans p') (m.trans m') r
theorem UpE.mono {D : Ends} (p : ρ <+: ρ1) (m : Mo M.K H H1) : EnLe (UpE M pg hot x ρ H xx D) (UpE M pg hot x ρ1 H1 xx D) := ⟨UpN.mono p m, Up.mono p m, UpN.mono p m, UpN.mono p m⟩
theorem UpW.mono (p : ρ <+: ρ1) (m : Mo M.K H H1) : XSLe (UpW M pg hot x ρ H xx W) (UpW M pg hot x ρ1 H1 xx W) := fun _ _ _ _ _ q ρ' H' σ' C d ws p' m' r => q ρ' H' σ' C d ws (p.trans p') (m.trans m') r
theorem upw_x {h : Hh} {σa : SA} {σ : L2.St} (r : Rl M pg hot x ρ h H σa xx σ) : XLe (fun b c fs h1 => UpW M pg hot x ρ H xx W b c fs σa h1) (UpX M ρ H fun b cls d H' => W b cls d σ H') := fun b c fs h1 q ρ' H' C d ws p m hr hc hd hf => q ρ' H' σ C d ws p m (r.mono p m hr) hc hd hf
theorem Rl.set {h : Hh} {σa : SA} {σ : L2.St} {i : Nat} {y : A} {v : V} (r : Rl M pg hot x ρ h H σa xx σ) (e : VR M ρ H y v) (hn : ∀ j, x.n = some j → j ≠ i) : Rl M pg hot x ρ h H (σa.set i (some y)) xx (σ.set i (some v)) := by
  refine ⟨r.hr, r.sr.set e, ?_⟩
  have s := r.sx
  cases hot with
  | none => exact s
  | some n =>
    obtain ⟨a, b⟩ := s
    refine ⟨a, fun j hj => ?_⟩
    rw [List.getElem?_set_ne (hn j hj).symm]
    exact b j hj
end
section
variable (M : Ad) (pg : Pg) (g : Fid → GQ) (hot : Hot) (x : Xh) (W : Bool → WX)
def LS (s : S) : L2.TS := fun D σ H => ∃ ρ h σa xx, Rl M pg hot x ρ h H σa xx σ ∧ wpS pg g xx s (UpE M pg hot x ρ H xx D) (UpW M pg hot x ρ H xx W) σa h
def LSs (s : Ss) : L2.TS := fun D σ H => ∃ ρ h σa xx, Rl M pg hot x ρ h H σa xx σ ∧ wpSs pg g xx s (UpE M pg hot x ρ H xx D) (UpW M pg hot x ρ H xx W) σa h
end
theorem PS.imp {X : Cx} {e : Stmt} {t u : L2.TS} (p : PS X e t) (f : ∀ D σ H, u D σ H → t D σ H) : PS X e u := ⟨fun pins s σ H D I z => p.run pins s σ H D I (f D σ H z)⟩
theorem PSs.imp {X : Cx} {e : List Stmt} {t u : L2.TS} (p : PSs X e t) (f : ∀ D σ H, u D σ H → t D σ H) : PSs X e u := ⟨fun pins s σ H D I z => p.run pins s σ H D I (f D σ H z)⟩
theorem hok_ne {N : List PySem.Str} {sc : Scope} {X : Cx} {hot : Hot} {xh : Xh} {i : Nat} {x : PySem.Str} (hk : Hok N sc X hot xh) (h1 : N[i]? = some x) (h0 : hot ≠ some (some x)) (hh : hot ≠ none) : ∀ j, xh.n = some j → j ≠ i := by
  intro j hj e
  subst e
  cases hot with
  | none => exact hh rfl
  | some o =>
    obtain ⟨X0, oe, pn, hX, hz, hd, a, hn⟩ := hk
    cases o with
    | none =>
      rw [a rfl] at hj
      cases hj
    | some n =>
      obtain ⟨i2, e1, e2, _⟩ := hn n rfl
      rw [hj] at e1
      cases e1
      rw [h1] at e2
      cases e2
      exact h0 rfl
theorem set_any {M : Ad} {X : Cx} (hu : X.A.units + 1 < cLine) : PSet X (fun o i v H Q => ∃ ρ h a b c, HR M ρ h H ∧ VR M ρ H a o ∧ VR M ρ H b i ∧ VR M ρ H c v ∧ subW a b c h (fun h' => ∀ ρ' H', ρ <+: ρ' → Mo M.K H H' → HR M ρ' h' H' → Q H')) := by
  intro pins s σ H o i v ov iv u Q I ro ri rv z
  obtain ⟨ρ, h, a, b, c, hr, va, vb, vc, w⟩ := z
  unfold subW at w
  cases va with
  | @ref n ad e =>
    obtain ⟨ob, ho, rb⟩ := hr.is e
    simp only [ho] at w
    have mo : ∀ u, Mo M.K H (upd H ad u) := fun u => hr.moAt e
    cases rb with
    | @lst xs vs g1 g2 =>
      obtain ⟨k, j, rfl, ej, q⟩ := w
      cases vb
      exact set_list pins s σ H _ _ _ ov iv u Q I ro ri rv ⟨_, vs, k, j, rfl, rfl, g1, by rw [← g2.length]; exact ej, q ρ _ (List.prefix_refl _) (mo _) (hr.put e (.lst upd_same ((g2.set vc j).mono (List.prefix_refl _) (mo _))))⟩
    | @dK kvs ws g1 g2 =>
      obtain ⟨k, hk, hl, q⟩ := w
      cases (show ov = Value.ref ad from ro)
      exact d_setItem hu I (.inl ⟨ws, k, g1, key_rel vb hk, by rw [← Paired.length g2]; exact hl, rfl⟩) ri rv fun s' I' => ⟨_, I', q ρ _ (List.prefix_refl _) (mo _) (hr.put e (.dK upd_same (KR.mono (List.prefix_refl _) (mo _) (KR.putK vc g2))))⟩
    | @dT kvs ws g1 g2 =>
      obtain ⟨k, hk, hl, q⟩ := w
      cases (show ov = Value.ref ad from ro)
      cases vb with
      | tup et tr => exact d_setItem hu I (.inr ⟨ws, k, _, g1, rfl, by rw [← keys_rel tr hk]; exact et, by rw [← Paired.length g2]; exact hl, rfl⟩) ri rv fun s' I' => ⟨_, I', q ρ _ (List.prefix_refl _) (mo _) (hr.put e (.dT upd_same (KR.mono (List.prefix_refl _) (mo _) (KR.putK vc g2))))⟩
      | _ => cases hk
    | ins b c e r => exact w.elim
  | _ => exact w.elim
section
variable {pg : Pg} {M : Ad} {g : Fid → GQ} {k : Nat} {N : List PySem.Str}
section
variable {X : Cx} {sc : Scope} {hot : Hot} {W : Bool → WX} {xh : Xh} (o : Sok pg M g k N X sc hot W) (hk : Hok N sc X hot xh)
include o
theorem Rl.put {ρ : List Addr} {h : Hh} {H : Hp} {σa : SA} {xx : Xx} {σ : L2.St} {i : Nat} {y : A} {v : V} {x : PySem.Str} (hk : Hok N sc X hot xh) (h1 : N[i]? = some x) (h0 : hot ≠ some (some x)) (r : Rl M pg hot xh ρ h H σa xx σ) (e : VR M ρ H y v) : Rl M pg hot xh ρ h H (σa.set i (some y)) xx (σ.set i (some v)) := by
  by_cases hh : hot = none
  · subst hh
    exact ⟨r.hr, r.sr.set e, r.sx⟩
  · exact r.set e (hok_ne hk h1 h0 hh)
theorem s_set {i : Nat} {e : E} {x : PySem.Str} {v : Expr} {p pos : Pos} (hk : Hok N sc X hot xh) (h1 : N[i]? = some x) (h2 : Loc sc x) (h0 : hot ≠ some (some x)) (hw : swapsWith v (some (.Name x p)) pos.line X.env = pure false) (pe : PE X v (LE M pg g hot xh W e)) : PS X (.Assign [.Name x p] v pos) (LS M pg g hot xh W (.set i e)) := by
  refine PS.imp (ps_set (by rw [o.c.hN]; exact o.c.nd) (by rw [o.c.hN]; exact h1) (by rw [o.c.hsc]; exact h2) pe hw (.inl (o.fn x))) fun D σ H z => ?_
  obtain ⟨ρ, h, σa, xx, r, w⟩ := z
  refine Lf.of (o.c.emono e) r w (upw_x r) fun y h1' ρ1 H1 v p1 m1 r1 v1 w1 => ?_
  exact w1 ρ1 H1 _ p1 m1 (Rl.put o hk h1 h0 r1 v1)
theorem s_sub {ob i e : E} {x y v : Expr} {p pos : Pos} (pv : PE X v (LE M pg g hot xh W e)) (po : PE X x (LE M pg g hot xh W ob)) (pi : PE X y (LE M pg g hot xh W i)) (ha : ∀ v, assign (.Subscript x y p) X.env v = (do
      let ov ← holding [v] (eval x X.env)
      let iv ← holding [v, ov] (eval y X.env)
      standAt p
      holding [v, ov, iv] (setItem ov iv v)
      release [v, ov, iv] [])) : PS X (.Assign [.Subscript x y p] v pos) (LS M pg g hot xh W (.sub ob i e)) := by
  refine PS.imp (ps_asg pv (pg_sub po pi (set_any (M := M) (by have := o.c.un; omega)) ha) (show swapsWithSole [.Subscript x y p] v pos.line X.env = pure false from swaps_sub (v := v) (o := x) (i := y) (p := p) (l := pos.line) (env := X.env)) (by cases v <;> rfl)) fun D σ H z => ?_
  obtain ⟨ρ, h, σa, xx, r, w⟩ := z
  refine Lf.of (o.c.emono e) r w (upw_x r) fun a1 h1 ρ1 H1 v1 p1 m1 r1 vr1 w1 => ?_
  refine Lf.of (o.c.emono ob) r1 w1 (fun _ _ _ _ q => UpX.mono p1 m1 _ _ _ _ (upw_x r _ _ _ _ q)) fun a2 h2 ρ2 H2 v2 p2 m2 r2 vr2 w2 => ?_
  have p12 := p1.trans p2
  have m12 := m1.trans m2
  refine Lf.of (o.c.emono i) r2 w2 (fun _ _ _ _ q => UpX.mono p12 m12 _ _ _ _ (upw_x r _ _ _ _ q)) fun a3 h3 ρ3 H3 v3 p3 m3 r3 vr3 w3 => ?_
  refine ⟨ρ3, h3, a2, a3, a1, r3.hr, vr2.mono p3 m3, vr3, (vr1.mono p2 m2).mono p3 m3, subW_mono (fun h' z ρ' H' p' m' hr' => ?_) w3⟩
  exact z ρ' H' σ ((p12.trans p3).trans p') ((m12.trans m3).trans m') (r3.mono p' m' hr')
theorem s_fld {ob e : E} {f : String} {x v : Expr} {p pos : Pos} (pv : PE X v (LE M pg g hot xh W e)) (po : PE X x (LE M pg g hot xh W ob)) : PS X (.Assign [.Attribute x (st f) p] v pos) (LS M pg g hot xh W (.fld ob f e)) := by
  refine PS.imp (ps_fld po pv swaps_attr) fun D σ H z => ?_
  obtain ⟨ρ, h, σa, xx, r, w⟩ := z
  refine Lf.of (o.c.emono e) r w (upw_x r) fun a1 h1 ρ1 H1 v1 p1 m1 r1 vr1 w1 => ?_
  refine Lf.of (o.c.emono ob) r1 w1 (fun _ _ _ _ q => UpX.mono p1 m1 _ _ _ _ (upw_x r _ _ _ _ q)) fun a2 h2 ρ2 H2 v2 p2 m2 r2 vr2 w2 => ?_
  obtain ⟨n, C, fs, rfl, e1, e2, e3, q⟩ := w2
  cases vr2 with
  | ref ea =>
    have z := r2.hr.ob _ _ _ ea e1
    cases z with
    | @ins _ Ca dx _ ws ob' cl q1 q2 =>
      obtain ⟨b1, _⟩ := o.c.G.obj _ _ ob' cl
      have mo : Mo M.K H2 (upd H2 _ (.ins Ca dx (putF (st f) v1 ws))) := r2.hr.moAt ea
      refine ⟨_, Ca, dx, ws, rfl, q1, o.c.hK ▸ b1, o.c.hK ▸ o.c.G.na _ _ _ cl e2, by rw [← q2.length]; exact e3, ?_⟩
      refine q ρ2 _ σ (p1.trans p2) ((m1.trans m2).trans mo) (r2.mono (List.prefix_refl _) mo (r2.hr.put ea (.ins ob' cl upd_same ?_)))
      exact FR.mono (List.prefix_refl _) mo (FR.put q2 (vr1.mono p2 m2))
theorem s_aug {i : Nat} {op : Operator} {e : E} {x : PySem.Str} {v : Expr} {p pos : Pos} (hk : Hok N sc X hot xh) (ho : op = .Add ∨ op = .Sub) (h1 : N[i]? = some x) (h2 : Loc sc x) (h0 : hot ≠ some (some x)) (pe : PE X v (LE M pg g hot xh W e)) : PS X (.AugAssign (.Name x p) op v pos) (LS M pg g hot xh W (.aug i op e)) := by
  rcases ho with rfl | rfl
  · refine PS.imp (ps_aug (by rw [o.c.hN]; exact o.c.nd) (by rw [o.c.hN]; exact h1) (by rw [o.c.hsc]; exact h2) pe ip_add (.inl (o.fn x))) fun D σ H z => ?_
    obtain ⟨ρ, h, σa, xx, r, y, ey, w⟩ := z
    obtain ⟨u, eu, vu⟩ := r.sr.get ey
    refine ⟨u, eu, Lf.of (o.c.emono e) r w (upw_x r) fun y2 h2 ρ1 H1 v p1 m1 r1 v1 w1 => ?_⟩
    obtain ⟨a, b, rfl, rfl, q⟩ := w1
    cases vu
    cases v1
    exact ⟨a, b, rfl, rfl, q ρ1 H1 _ p1 m1 (Rl.put o hk h1 h0 r1 (.int _))⟩
  · refine PS.imp (ps_aug (by rw [o.c.hN]; exact o.c.nd) (by rw [o.c.hN]; exact h1) (by rw [o.c.hsc]; exact h2) pe ip_sub (.inl (o.fn x))) fun D σ H z => ?_
    obtain ⟨ρ, h, σa, xx, r, y, ey, w⟩ := z
    obtain ⟨u, eu, vu⟩ := r.sr.get ey
    refine ⟨u, eu, Lf.of (o.c.emono e) r w (upw_x r) fun y2 h2 ρ1 H1 v p1 m1 r1 v1 w1 => ?_⟩
    obtain ⟨a, b, rfl, rfl, q⟩ := w1
    cases vu
    cases v1
    exact ⟨a, b, rfl, rfl, q ρ1 H1 _ p1 m1 (Rl.put o hk h1 h0 r1 (.int _))⟩
theorem s_augF {ob e : E} {f : String} {x v : Expr} {p pos : Pos} (po : PE X x (LE M pg g hot xh W ob)) (pv : PE X v (LE M pg g hot xh W e)) : PS X (.AugAssign (.Attribute x (st f) p) .Add v pos) (LS M pg g hot xh W (.augF ob f .Add e)) := by
  refine PS.imp (ps_fldaug po pv in_add) fun D σ H z => ?_
  obtain ⟨ρ, h, σa, xx, r, w⟩ := z
  refine Lf.of (o.c.emono ob) r w (upw_x r) fun a1 h1 ρ1 H1 v1 p1 m1 r1 vr1 w1 => ?_
  obtain ⟨n, C, fs, a, rfl, e1, e2, e3, w1⟩ := w1
  cases vr1 with
  | ref ea =>
    have z := r1.hr.ob _ _ _ ea e1
    cases z with
    | @ins _ Ca dx _ ws ob' cl q1 q2 =>
      obtain ⟨b1, _⟩ := o.c.G.obj _ _ ob' cl
      obtain ⟨u, lu, ru⟩ := q2.lookup e3
      cases ru
      refine ⟨_, Ca, dx, ws, _, rfl, q1, o.c.hK ▸ b1, o.c.hK ▸ o.c.G.na _ _ _ cl e2, lu, ?_⟩
      refine Lf.of (o.c.emono e) r1 w1 (fun _ _ _ _ q => UpX.mono p1 m1 _ _ _ _ (upw_x r _ _ _ _ q)) fun a2 h2 ρ2 H2 v2 p2 m2 r2 vr2 w2 => ?_
      obtain ⟨b, fs2, rfl, _, e4, e5, q⟩ := w2
      cases vr2
      have ea2 := pre_get p2 ea
      have z2 := r2.hr.ob _ _ _ ea2 e4
      cases z2 with
      | @ins _ Ca2 dx2 _ ws2 ob2 cl2 k1 k2 =>
        rw [cl] at cl2
        cases cl2
        have mo : Mo M.K H2 (upd H2 _ (.ins Ca dx2 (putF (st f) (.int (a + b)) ws2))) := r2.hr.moAt ea2
        refine ⟨_, _, rfl, rfl, dx2, ws2, k1, by rw [← FR.length k2]; exact e5, ?_⟩
        refine q ρ2 _ σ (p1.trans p2) ((m1.trans m2).trans mo) (r2.mono (List.prefix_refl _) mo (r2.hr.put ea2 (.ins ob2 cl upd_same ?_)))
        exact FR.mono (List.prefix_refl _) mo (FR.put k2 (.int _))
theorem s_ite {d : E} {a b : Ss} {z : Expr} {x y : List Stmt} {pos : Pos} (pt : PT X z (LB M pg g hot xh W d)) (pa : PSs X x (LSs M pg g hot xh W a)) (pb : PSs X y (LSs M pg g hot xh W b)) : PS X (.If z x y pos) (LS M pg g hot xh W (.ite d a b)) := by
  refine PS.imp (ps_if pt pa pb) fun D σ H z => ?_
  obtain ⟨ρ, h, σa, xx, r, w⟩ := z
  refine ⟨ρ, h, σa, xx, r, wpB_mono o.c.G.mono d (fun kk h1 w1 ρ1 H1 p1 m1 hr1 => ?_) (upw_x r) w⟩
  have r1 := r.mono p1 m1 hr1
  cases kk with
  | true => exact ⟨ρ1, h1, σa, xx, r1, wpSs_mono o.c.G.mono a (UpE.mono p1 m1) (UpW.mono p1 m1) w1⟩
  | false => exact ⟨ρ1, h1, σa, xx, r1, wpSs_mono o.c.G.mono b (UpE.mono p1 m1) (UpW.mono p1 m1) w1⟩
theorem s_ret {e : E} {v : Expr} {pos : Pos} (pe : PE X v (LE M pg g hot xh W e)) : PS X (.Return (some v) pos) (LS M pg g hot xh W (.ret e)) := by
  refine PS.imp (ps_ret pe) fun D σ H z => ?_
  obtain ⟨ρ, h, σa, xx, r, w⟩ := z
  exact ⟨ρ, h, σa, xx, r, o.c.emono e _ _ _ _ _ _ _ (fun _ _ q => q) (upw_x r) w⟩
theorem s_retN {pos : Pos} : PS X (.Return none pos) (LS M pg g hot xh W .retN) := by
  refine PS.imp ps_retN fun D σ H z => ?_
  obtain ⟨ρ, h, σa, xx, r, w⟩ := z
  exact Up.now w r.hr .non
theorem s_ex {e : E} {v : Expr} {pos : Pos} (h : noLC v = true) (pe : PE X v (LE M pg g hot xh W e)) : PS X (.Expr v pos) (LS M pg g hot xh W (.ex e)) := by
  refine PS.imp (ps_expr pe (swaps_no h)) fun D σ H z => ?_
  obtain ⟨ρ, h, σa, xx, r, w⟩ := z
  refine Lf.of (o.c.emono e) r w (upw_x r) fun y h1 ρ1 H1 v p1 m1 r1 v1 w1 => ?_
  exact w1 ρ1 H1 σ p1 m1 r1
theorem s_pass {pos : Pos} : PS X (.Pass pos) (LS M pg g hot xh W .pass) := by
  refine PS.imp ps_pass fun D σ H z => ?_
  obtain ⟨ρ, h, σa, xx, r, w⟩ := z
  exact w ρ H σ (List.prefix_refl _) Mo.refl r
theorem s_brk {pos : Pos} : PS X (.Break pos) (LS M pg g hot xh W .brk) := by
  refine PS.imp ps_break fun D σ H z => ?_
  obtain ⟨ρ, h, σa, xx, r, w⟩ := z
  exact w ρ H σ (List.prefix_refl _) Mo.refl r
theorem s_cont {pos : Pos} : PS X (.Continue pos) (LS M pg g hot xh W .cont) := by
  refine PS.imp ps_continue fun D σ H z => ?_
  obtain ⟨ρ, h, σa, xx, r, w⟩ := z
  exact w ρ H σ (List.prefix_refl _) Mo.refl r
theorem s_nil : PSs X [] (LSs M pg g hot xh W .nil) := by
  refine PSs.imp pss_nil fun D σ H z => ?_
  obtain ⟨ρ, h, σa, xx, r, w⟩ := z
  exact w ρ H σ (List.prefix_refl _) Mo.refl r
theorem s_cons {s : S} {r : Ss} {x : Stmt} {xs : List Stmt} (p : PS X x (LS M pg g hot xh W s)) (q : PSs X xs (LSs M pg g hot xh W r)) : PSs X (x :: xs) (LSs M pg g hot xh W (.cons s r)) := by
  refine PSs.imp (pss_cons p q) fun D σ H z => ?_
  obtain ⟨ρ, h, σa, xx, rr, w⟩ := z
  have w : wpS pg g xx s { UpE M pg hot xh ρ H xx D with nx := fun σ1 h1 => wpSs pg g xx r (UpE M pg hot xh ρ H xx D) (UpW M pg hot xh ρ H xx W) σ1 h1 } (UpW M pg hot xh ρ H xx W) σa h := w
  refine ⟨ρ, h, σa, xx, rr, wpS_mono o.c.G.mono s (D := { UpE M pg hot xh ρ H xx D with nx := fun σ1 h1 => wpSs pg g xx r (UpE M pg hot xh ρ H xx D) (UpW M pg hot xh ρ H xx W) σ1 h1 }) ⟨fun σ1 h1 w1 ρ1 H1 σ' p1 m1 r1 => ?_, fun _ _ q => q, fun _ _ q => q, fun _ _ q => q⟩ (fun _ _ _ _ _ q => q) w⟩
  exact ⟨ρ1, h1, σ1, xx, r1, wpSs_mono o.c.G.mono r (UpE.mono p1 m1) (UpW.mono p1 m1) w1⟩
end
end
end Z

/-! ### statements of a body proper -/
namespace Z
open PySem PySem.Spec PyProof.Rows L2
theorem TE.asgSub {N : List PySem.Str} {hot : Hot} {sc : Scope} {c : E} {e x : Expr} (t : TE N hot sc c e) (p : Pos) (env : Env) (v : Value) : assign (.Subscript x e p) env v = (do
      let ov ← holding [v] (eval x env)
      let iv ← holding [v, ov] (eval e env)
      standAt p
      holding [v, ov, iv] (setItem ov iv v)
      release [v, ov, iv] []) := by
  cases t <;> rfl
theorem swaps_cell {x : PySem.Str} {p : Pos} {v : Expr} {gs : List Comprehension} {scope : Scope} {p2 : Pos} {l : Nat} {env : Env} (h : env.scope.names.lookup x = some .cell) : swapsWith (.ListComp v gs scope p2) (some (.Name x p)) l env = pure false := by
  have hk : env.kindOf x = some .cell := h
  unfold swapsWith
  simp only [hk]
  have e : (some NameKind.cell == some NameKind.local) = false := by decide
  simp only [e, Bool.and_false, Bool.false_and]
theorem swap_no {es : List Expr} {k : Nat} {p : Pos} {v : Expr} {env : Env} (h : noPair es.length v = true) : swappedStores [.Tuple es k p] v env = pure none := by
  cases v with
  | Tuple vs k2 p2 =>
    simp only [noPair] at h
    unfold swappedStores
    simp only [h, Bool.true_or, if_true]
  | _ => rfl
section
variable {pg : Pg} {M : Ad} {g : Fid → GQ} {k : Nat} {N : List PySem.Str}
section
variable {X : Cx} {sc : Scope} {W : Bool → WX} {xh : Xh} (o : Sok pg M g k N X sc none W)
include o
theorem s_asg {ts : List Tg} {e : E} {es : List Expr} {j : Nat} {v : Expr} {p pos : Pos} (t : TGs N none sc ts es) (pe : PE X v (LE M pg g none xh W e)) (h : noPair es.length v = true) : PS X (.Assign [.Tuple es j p] v pos) (LS M pg g none xh W (.asg (.tp ts) e)) := by
  have pgT : PG X (.Tuple es j p) (LfG M (.tp ts)) := sG (b := none) o.c (fun x _ => o.fn x) (.tp t)
  have pgL : PG X (.Tuple es j p) (LfGL M ts) := sGL (b := none) o.c (fun x _ => o.fn x) t
  have pg' := PG.or pgT pgL
  refine PS.imp (ps_asg pe pg' (show swapsWithSole [.Tuple es j p] v pos.line X.env = pure false from swaps_tup (v := v) (es := es) (k := j) (p := p) (l := pos.line) (env := X.env)) (swap_no h)) fun D σ H z => ?_
  obtain ⟨ρ, h, σa, xx, r, w⟩ := z
  refine Lf.of (o.c.emono e) r w (upw_x r) fun y h1 ρ1 H1 v p1 m1 r1 v1 w1 => ?_
  rcases w1 with w1 | ⟨us, n, xs, e1, e2, e3, w1⟩
  · exact .inl ⟨ρ1, h1, σa, y, r1.hr, r1.sr, v1, tgW_mono (.tp ts) (fun σ1 w2 σ' s' _ => w2 ρ1 H1 σ' p1 m1 ⟨r1.hr, s', r.sx⟩) w1⟩
  · injection e1 with e1
    subst e1
    subst e2
    exact .inr ⟨ρ1, h1, σa, n, xs, r1.hr, r1.sr, v1, e3, tgsW_mono ts (fun σ1 w2 σ' s' => w2 ρ1 H1 σ' p1 m1 ⟨r1.hr, s', r.sx⟩) w1⟩
omit o in
theorem swap_subs {x y x2 y2 : Expr} {q q2 q3 q4 : Pos} {k k2 : Nat} {u v : Expr} {env : Env} : swappedStores [.Tuple [.Subscript x y q, .Subscript x2 y2 q2] k q3] (.Tuple [u, v] k2 q4) env = pure none := by
  unfold swappedStores
  dsimp only
  split
  · rfl
  · split
    · rfl
    · rfl
theorem s_parS {ob i pb j : E} {as : Es} {x y x2 y2 u v : Expr} {q q2 q3 q4 pos : Pos} {k1 k2 : Nat} (pe : PE X (.Tuple [u, v] k2 q4) (LE M pg g none xh W (.tup as))) (po : PE X x (LE M pg g none xh W ob)) (pi : PE X y (LE M pg g none xh W i)) (pp : PE X x2 (LE M pg g none xh W pb)) (pj : PE X y2 (LE M pg g none xh W j))
    (ha : ∀ v, assign (.Subscript x y q) X.env v = (do
      let ov ← holding [v] (eval x X.env)
      let iv ← holding [v, ov] (eval y X.env)
      standAt q
      holding [v, ov, iv] (setItem ov iv v)
      release [v, ov, iv] []))
    (ha2 : ∀ v, assign (.Subscript x2 y2 q2) X.env v = (do
      let ov ← holding [v] (eval x2 X.env)
      let iv ← holding [v, ov] (eval y2 X.env)
      standAt q2
      holding [v, ov, iv] (setItem ov iv v)
      release [v, ov, iv] [])) : PS X (.Assign [.Tuple [.Subscript x y q, .Subscript x2 y2 q2] k1 q3] (.Tuple [u, v] k2 q4) pos) (LS M pg g none xh W (.parS ob i pb j as)) := by
  have sa := set_any (X := X) (M := M) (by have := o.c.un; omega)
  refine PS.imp (ps_asg pe (pg_tup (o.c.calm rfl).1 (pgs_cons (pg_sub po pi sa ha) (pgs_cons (pg_sub pp pj sa ha2) pgs_nil))) (show swapsWithSole [.Tuple [.Subscript x y q, .Subscript x2 y2 q2] k1 q3] (.Tuple [u, v] k2 q4) pos.line X.env = pure false from swaps_tup (v := .Tuple [u, v] k2 q4) (es := [.Subscript x y q, .Subscript x2 y2 q2]) (k := k1) (p := q3) (l := pos.line) (env := X.env)) swap_subs) fun D σ H z => ?_
  obtain ⟨ρ, h, σa, xx, r, w⟩ := z
  have w2 : wpE pg g xx (.tup as) σa h (fun t h1 => ∃ v u, t = .tup [v, u] ∧ wpE pg g xx ob σa h1 (fun x h2 => wpE pg g xx i σa h2 (fun y h3 => subW x y v h3 fun h4 => wpE pg g xx pb σa h4 (fun x2 h5 => wpE pg g xx j σa h5 (fun y2 h6 => subW x2 y2 u h6 fun h7 => UpN M pg none xh ρ H xx D.nx σa h7) (fun b c fs h1 => UpW M pg none xh ρ H xx W b c fs σa h1)) (fun b c fs h1 => UpW M pg none xh ρ H xx W b c fs σa h1)) (fun b c fs h1 => UpW M pg none xh ρ H xx W b c fs σa h1)) (fun b c fs h1 => UpW M pg none xh ρ H xx W b c fs σa h1)) (fun b c fs h1 => UpW M pg none xh ρ H xx W b c fs σa h1) := by
    refine wpEs_mono o.c.G.mono as (fun xs h1 z => ?_) (fun _ _ _ _ z => z) w
    obtain ⟨v, u, rfl, z⟩ := z
    exact ⟨by rw [sizeLine_eq]; show 2 ≤ 16777216; decide, v, u, rfl, z⟩
  refine Lf.of (o.c.emono (.tup as)) r w2 (upw_x r) fun t h1 ρ1 H1 tv p1 m1 r1 vr w1 => ?_
  obtain ⟨a1, a2, rfl, w1⟩ := w1
  cases vr with
  | tup e rr =>
    cases rr with
    | cons b1 rr =>
    cases rr with
    | cons b2 rr =>
    cases rr
    refine ⟨_, _, rfl, SqT.of e, rfl, _, _, rfl, ?_⟩
    refine Lf.of (o.c.emono ob) r1 w1 (fun _ _ _ _ q => UpX.mono p1 m1 _ _ _ _ (upw_x r _ _ _ _ q)) fun x1 h2 ρ2 H2 v2 p2 m2 r2 vr2 w2 => ?_
    have p12 := p1.trans p2
    have m12 := m1.trans m2
    refine Lf.of (o.c.emono i) r2 w2 (fun _ _ _ _ q => UpX.mono p12 m12 _ _ _ _ (upw_x r _ _ _ _ q)) fun x2 h3 ρ3 H3 v3 p3 m3 r3 vr3 w3 => ?_
    have p13 := p12.trans p3
    have m13 := m12.trans m3
    refine ⟨ρ3, h3, x1, x2, a1, r3.hr, vr2.mono p3 m3, vr3, (b1.mono p2 m2).mono p3 m3, subW_mono (fun h4 w4 ρ4 H4 p4 m4 hr4 => ?_) w3⟩
    have p14 := p13.trans p4
    have m14 := m13.trans m4
    have r4 := r3.mono p4 m4 hr4
    refine ⟨_, _, rfl, ?_⟩
    refine Lf.of (o.c.emono pb) r4 w4 (fun _ _ _ _ q => UpX.mono p14 m14 _ _ _ _ (upw_x r _ _ _ _ q)) fun x5 h5 ρ5 H5 v5 p5 m5 r5 vr5 w5 => ?_
    have p15 := p14.trans p5
    have m15 := m14.trans m5
    refine Lf.of (o.c.emono j) r5 w5 (fun _ _ _ _ q => UpX.mono p15 m15 _ _ _ _ (upw_x r _ _ _ _ q)) fun x6 h6 ρ6 H6 v6 p6 m6 r6 vr6 w6 => ?_
    refine ⟨ρ6, h6, x5, x6, a2, r6.hr, vr5.mono p6 m6, vr6, ((((b2.mono p2 m2).mono p3 m3).mono p4 m4).mono p5 m5).mono p6 m6, subW_mono (fun h7 w7 ρ7 H7 p7 m7 hr7 => ⟨rfl, ?_⟩) w6⟩
    exact w7 ρ7 H7 σ ((p15.trans p6).trans p7) ((m15.trans m6).trans m7) (r6.mono p7 m7 hr7)
theorem s_setL {i : Nat} {own : List (PySem.Str × Nat)} {tg : Tg} {it : I} {d elt : E} {x : PySem.Str} {v tgE itE : Expr} {ifs : List Expr} {scope : Scope} {p p2 pos : Pos} (h1 : N[i]? = some x) (h2 : sc.names.lookup x = some .local) (h3 : (p.line == p2.line) = true) (h4 : (scope.names.any fun (n, k) => n == x && (k == .local || k == .cell)) = false)
    (hb : blkC N sc scope own = true) (hin : tgIn (own.map (·.2)) tg = true) (pi : PI X tgE itE (LI M pg g none xh W it)) (hf : ∀ y, foldedSetIterable itE X.env y = pure y)
    (hg : ∀ (s : Shared) (H : Hp) (C : Addr) (cl : List (PySem.Str × Addr)) (fp : List Addr), PG (X.blk s H scope (compEnvC scope cl C X.env) fp) tgE (LfG M tg)) (ht : ∀ (s : Shared) (H : Hp) (C : Addr) (cl : List (PySem.Str × Addr)) (fp : List Addr), PTs (X.blk s H scope (compEnvC scope cl C X.env) fp) ifs (LC M pg g xh d))
    (he : ∀ (s : Shared) (H : Hp) (C : Addr) (cl : List (PySem.Str × Addr)) (fp : List Addr), PE (X.blk s H scope (compEnvC scope cl C X.env) fp) v (LE M pg g none xh W0 elt)) :
    PS X (.Assign [.Name x p] (.ListComp v [⟨tgE, itE, ifs, 0⟩] scope p2) pos) (LS M pg g none xh W (.set i (.lc (own.map (·.2)) tg it d elt))) := by
  refine PS.imp (ps_setLc (o.c.calm rfl).1 (by rw [o.c.hN]; exact o.c.nd) (by rw [o.c.hN]; exact h1) (by rw [o.c.hsc]; exact h2) (sw_true (by rw [o.c.hsc]; exact o.kd) (by rw [o.c.hsc]; exact h2) h3 h4) pi (by rw [o.c.hN, o.c.hsc]; exact blkOk_by hb) hg ht he hf) fun D σ H z => ?_
  obtain ⟨ρ, h, σa, xx, r, w⟩ := z
  have z : LE M pg g none xh W (.lc (own.map (·.2)) tg it d elt) σ H (fun x H1 => D.nx (σ.set i (some x)) H1) := by
    have w : wpE pg g xx (.lc (own.map (·.2)) tg it d elt) σa h (fun x h1 => UpN M pg none xh ρ H xx D.nx (σa.set i (some x)) h1) (fun b c fs h1 => UpW M pg none xh ρ H xx W b c fs σa h1) := w
    refine Lf.of (o.c.emono _) r w (upw_x r) fun y h1 ρ1 H1 v p1 m1 r1 v1 w1 => ?_
    exact w1 ρ1 H1 _ p1 m1 ⟨r1.hr, r1.sr.set v1, r1.sx⟩
  exact lc_of o.c hin z
theorem s_par2 {i j : Nat} {a b : E} {x y : PySem.Str} {u v : Expr} {px py p p2 pos : Pos} {k1 k2 : Nat} (h1 : N[i]? = some x) (h2 : N[j]? = some y) (h3 : i ≠ j) (h4 : x ≠ y) (h5 : sc.names.lookup x = some .local) (h6 : sc.names.lookup y = some .local) (h7 : (py.line == px.line) = true) (h8 : [u, v].all (foldedForSure 8) = false) (h9 : [u, v].all (constantsAlone 8) = false)
    (hu : noStar u = true) (hv : noStar v = true) (pa : PA X [u, v] (LEs M pg g none xh W (.cons a (.cons b .nil)))) : PS X (.Assign [.Tuple [.Name x px, .Name y py] k1 p] (.Tuple [u, v] k2 p2) pos) (LS M pg g none xh W (.par [i, j] (.cons a (.cons b .nil)))) := by
  have hw : swappedStores [.Tuple [.Name x px, .Name y py] k1 p] (.Tuple [u, v] k2 p2) X.env = pure (some [x, y]) := by
    have kx : X.env.kindOf x = some .local := by
      unfold Env.kindOf
      rw [o.c.hsc]
      exact h5
    have ky : X.env.kindOf y = some .local := by
      unfold Env.kindOf
      rw [o.c.hsc]
      exact h6
    have hb : X.env.blockKind = .function := by
      unfold Env.blockKind
      rw [o.c.hsc, o.kd]
      rfl
    have hns : ([u, v].any fun | .Starred .. => true | _ => false) = false := by
      have z : ∀ e : Expr, noStar e = true → (match e with | .Starred .. => true | _ => false) = false := by
        intro e he
        cases e <;> first
          | rfl
          | cases he
      simp only [List.any_cons, List.any_nil, Bool.or_false, Bool.or_eq_false_iff]
      exact ⟨z u hu, z v hv⟩
    have hfm : ([Expr.Name x px, Expr.Name y py].filterMap fun
        | .Name id pos => if X.env.kindOf id == some .local && pos.line == px.line then some id else none
        | _ => none) = [x, y] := by
      have e1 : (some NameKind.local == some NameKind.local) = true := by decide
      simp only [List.filterMap_cons, List.filterMap_nil, kx, ky, e1, Bool.true_and, h7, beq_self_eq_true, if_true]
    have hed : ([x, y] : List PySem.Str).eraseDups.length = 2 := by
      have e : (y == x) = false := beq_eq_false_iff_ne.mpr (Ne.symm h4)
      simp [List.eraseDups_cons, e]
    unfold swappedStores
    simp only [List.length_cons, List.length_nil, hb, hns, hfm]
    refine (if_neg (by decide)).trans ?_
    refine (if_neg fun z => absurd (hns.symm.trans z) (by decide)).trans ?_
    generalize hL : List.filterMap (β := PySem.Str) _ [Expr.Name x px, Expr.Name y py] = L
    have eL : L = [x, y] := hL.symm.trans hfm
    subst eL
    rw [hed]
    refine (if_neg (show ¬ ((2 != 0 + 1 + 1 || 2 != 2) = true) by decide)).trans ?_
    rw [h8, h9]
    rfl
  refine PS.imp (ps_par (o.c.calm rfl).1 (by rw [o.c.hN]; exact o.c.nd) (by rw [o.c.hN]; exact h1) (by rw [o.c.hN]; exact h2) h3 (by rw [o.c.hsc]; exact h5) (by rw [o.c.hsc]; exact h6) pa hw) fun D σ H z => ?_
  obtain ⟨ρ, h, σa, xx, r, w⟩ := z
  have w : wpEs pg g xx (.cons a (.cons b .nil)) σa h (fun xs h1 => xs.length = 2 ∧ UpN M pg none xh ρ H xx D.nx (([i, j].zip xs).foldl (fun τ p => τ.set p.1 (some p.2)) σa) h1) (fun b c fs h1 => UpW M pg none xh ρ H xx W b c fs σa h1) := w
  refine LfL.of (o.c.esmono (.cons a (.cons b .nil))) r w (upw_x r) fun ys h1 ρ1 H1 vs p1 m1 r1 v1 w1 => ?_
  obtain ⟨l, w1⟩ := w1
  match ys, l, v1, w1 with
  | [a1, a2], _, v1, w1 =>
    obtain ⟨x1, x2, rfl, r3, r4⟩ := vrs2 v1
    exact ⟨x1, x2, rfl, w1 ρ1 H1 _ p1 m1 ⟨r1.hr, (r1.sr.set r3).set r4, r1.sx⟩⟩
theorem s_for {tg : Tg} {it : I} {b : Ss} {tgE itE : Expr} {body : List Stmt} {pos : Pos} (t : TI N none sc it tgE itE) (pi : PI X tgE itE (LI M pg g none xh W it)) (tt : TG N none sc tg tgE) (pb : PSs X body (LSs M pg g none xh W b)) : PS X (.For tgE itE body [] pos) (LS M pg g none xh W (.for tg it b)) := by
  have pgg : PG X tgE (LfG M tg) := sG (b := none) o.c (fun x _ => o.fn x) tt
  refine PS.imp (ps_for (o.hp rfl) (o.c.calm rfl).1 pi pgg pb (fun y => t.folded _ y)) fun D σ H z => ?_
  obtain ⟨ρ, h, σa, xx, r, w⟩ := z
  refine ⟨ρ, h, σa, xx, r, wpI_mono o.c.G.mono it (fun G xs h1 w1 ρ1 H1 J p1 m1 hr1 wk => ?_) (upw_x r) w⟩
  let stp : A → En → SA → Hh → Prop := fun x D' σ' h' => tgW tg x σ' fun σ2 => wpSs pg g xx b D' (UpW M pg none xh ρ H xx W) σ2 h'
  have w1 : forA G stp xs (UpE M pg none xh ρ H xx D) σa h1 := w1
  let Pv : Nat → L2.St → Hp → Prop := fun i σ2 H2 => ∃ ρ2 h2 σ3, ρ1 <+: ρ2 ∧ Mo M.K H1 H2 ∧ Rl M pg none xh ρ2 h2 H2 σ3 xx σ2 ∧ forA G stp (xs.drop i) (UpE M pg none xh ρ H xx D) σ3 h2
  refine ⟨fun i m σ2 H2 => m = xs.length - i ∧ i ≤ xs.length ∧ Pv i σ2 H2, ⟨xs.length, rfl, Nat.zero_le _, ρ1, h1, σa, List.prefix_refl _, Mo.refl, r.mono p1 m1 hr1, by rw [List.drop_zero]; exact w1⟩, ?_⟩
  rintro i m σ2 H2 ⟨rfl, hi, ρ2, h2, σ3, p2, m2, r2, w2⟩
  have gd : gdOk G h2 := by
    cases hx : xs.drop i with
    | nil =>
      rw [hx] at w2
      exact w2.1
    | cons _ _ =>
      rw [hx] at w2
      exact w2.1
  obtain ⟨k1, k2, k3⟩ := wk ρ2 h2 H2 p2 m2 r2.hr gd
  have p02 := p1.trans p2
  have m02 := m1.trans m2
  by_cases hlt : i < xs.length
  · refine .inr ⟨k1 i hlt, Pv (i + 1), fun σ4 H3 p => ⟨_, by omega, rfl, hlt, p⟩, fun x H3 hy => ?_⟩
    obtain ⟨m3, hr3, vr3⟩ := k3 i xs[i] x H3 (List.getElem?_eq_getElem hlt) hy
    rw [List.drop_eq_getElem_cons hlt] at w2
    have w3 := w2.2
    refine ⟨ρ2, h2, σ3, xs[i], hr3, r2.sr.mono (List.prefix_refl _) m3, vr3, tgW_mono tg (fun σ4 w4 σ' s' _ => ?_) w3⟩
    refine ⟨ρ2, h2, σ4, xx, ⟨hr3, s', r2.sx⟩, wpSs_mono o.c.G.mono b ⟨?_, ?_, ?_, ?_⟩ (UpW.mono p02 (m02.trans m3)) w4⟩
    · intro σ5 h5 w5 ρ5 H5 σ6 p5 m5 r5
      exact ⟨ρ5, h5, σ5, p2.trans p5, (m2.trans m3).trans m5, r5, w5⟩
    · exact Up.mono p02 (m02.trans m3)
    · exact UpN.mono p02 (m02.trans m3)
    · intro σ5 h5 w5 ρ5 H5 σ6 p5 m5 r5
      exact ⟨ρ5, h5, σ5, p2.trans p5, (m2.trans m3).trans m5, r5, w5⟩
  · have e : i = xs.length := by omega
    subst e
    rw [List.drop_length] at w2
    exact .inl ⟨k2, w2.2 ρ2 H2 σ2 p02 m02 r2⟩
theorem s_while {d : E} {b : Ss} {z : Expr} {body : List Stmt} {pos : Pos} (pt : PT X z (LB M pg g none xh W d)) (pb : PSs X body (LSs M pg g none xh W b)) : PS X (.While z body [] pos) (LS M pg g none xh W (.while d b)) := by
  refine PS.imp (ps_while (o.hp rfl) pt pb) fun D σ H z => ?_
  obtain ⟨ρ, h, σa, xx, r, n, w⟩ := z
  let cc : SA → Hh → (Bool → Hh → Prop) → Prop := fun σ' h' Q => wpB pg g xx d σ' h' Q (fun b c fs h1 => UpW M pg none xh ρ H xx W b c fs σ' h1)
  let bb : En → SA → Hh → Prop := fun D' σ' h' => wpSs pg g xx b D' (UpW M pg none xh ρ H xx W) σ' h'
  have w : whA cc bb n (UpE M pg none xh ρ H xx D) σa h := w
  refine ⟨fun m σ2 H2 => ∃ ρ2 h2 σ3, ρ <+: ρ2 ∧ Mo M.K H H2 ∧ Rl M pg none xh ρ2 h2 H2 σ3 xx σ2 ∧ whA cc bb m (UpE M pg none xh ρ H xx D) σ3 h2, ⟨n, ρ, h, σa, List.prefix_refl _, Mo.refl, r, w⟩, ?_⟩
  rintro m σ2 H2 ⟨ρ2, h2, σ3, p2, m2, r2, w2⟩
  cases m with
  | zero => exact w2.elim
  | succ m =>
    have w2 : wpB pg g xx d σ3 h2 _ _ := w2
    refine ⟨ρ2, h2, σ3, xx, r2, wpB_mono o.c.G.mono d (fun kk h3 w3 ρ3 H3 p3 m3 hr3 => ?_) (fun _ _ _ _ q => upw_x r2 _ _ _ _ (UpW.mono p2 m2 _ _ _ _ _ q)) w2⟩
    have r3 := r2.mono p3 m3 hr3
    cases kk with
    | false => exact w3 ρ3 H3 σ2 (p2.trans p3) (m2.trans m3) r3
    | true =>
      have w3 : wpSs pg g xx b _ _ σ3 h3 := w3
      refine ⟨fun σ4 H4 => ∃ ρ4 h4 σ5, ρ <+: ρ4 ∧ Mo M.K H H4 ∧ Rl M pg none xh ρ4 h4 H4 σ5 xx σ4 ∧ whA cc bb m (UpE M pg none xh ρ H xx D) σ5 h4, fun σ4 H4 p => ⟨m, Nat.lt_succ_self _, p⟩, ?_⟩
      refine ⟨ρ3, h3, σ3, xx, r3, wpSs_mono o.c.G.mono b ⟨?_, ?_, ?_, ?_⟩ (UpW.mono (p2.trans p3) (m2.trans m3)) w3⟩
      · intro σ5 h5 w5 ρ5 H5 σ6 p5 m5 r5
        exact ⟨ρ5, h5, σ5, (p2.trans p3).trans p5, (m2.trans m3).trans m5, r5, w5⟩
      · exact Up.mono (p2.trans p3) (m2.trans m3)
      · exact UpN.mono (p2.trans p3) (m2.trans m3)
      · intro σ5 h5 w5 ρ5 H5 σ6 p5 m5 r5
        exact ⟨ρ5, h5, σ5, (p2.trans p3).trans p5, (m2.trans m3).trans m5, r5, w5⟩
end
end
end Z

/-! ### raise, try, and every statement -/
namespace Z
open PySem PySem.Spec PyProof.Rows L2
theorem fresh_heap {H : Hp} {a dx C : Addr} {fs : List (PySem.Str × V)} (n : H a = none) (ne : dx ≠ a) :
    upd (del (upd (upd (upd H a (exo a C none)) dx (exd dx fs)) a (exo a C (some dx))) a) dx (.xd fs) = upd H dx (.xd fs) := by
  funext b
  by_cases h1 : b = dx
  · subst h1
    rw [upd_same, upd_same]
  · rw [upd_ne h1, upd_ne h1]
    by_cases h2 : b = a
    · subst h2
      rw [del_same, n]
    · rw [del_ne h2, upd_ne h2, upd_ne h1, upd_ne h2]
/-! an error that is made where nothing is handled: its context is None -/
abbrev withE (h : Heap) (us : List Value) (C : Addr) : Heap := (h.push (PySem.W.kdv_tup us)).push (PySem.HandSPX.excO C h.objs.size)
theorem mk_oexN {X : Cx} {x : PySem.Str} {C fI : Addr} {k : Nat} {fd : FuncData} {ps : List PySem.Str} {sp : Sp} {e : Expr} {es : List Expr} {ta : TA} {p pos : Pos} (T : OexC X.K C) (iC : PySem.W.findIn X.K (.ref C) "__init__" = some (some (.ref fI)))
    (tI : PySem.W.typeIn X.K (.ref fI) = some (.type "function")) (Fo : FnOk X.prog X.w X.K X.mg X.base CX0 k fI fd ps sp) (hr : Room (k + 1) X.A) (hb : Binds X.K fd ps []) (hg : Gl X x) (hm : X.mg x = some (.ref C)) (pa : PA X (e :: es) ta) (hdb : (x == ("__debug__" : PySem.Str)) = false)
    (h1 : starEach (e :: es) X.env = (false, eval e X.env) :: starEach es X.env) (h2 : (backTo pos (starEach es X.env)).any (·.1) = false) : L2N.PMk X (.Call (.Name x p) (e :: es) [] pos) (tMkO C sp [] ta) := by
  intro pins s σ H Q I z
  obtain ⟨nm, qn, N, bs, bm, sn, sub, ab, col, dd, m0, m1, m2, m3, m5, hC, hbm⟩ := T.cls
  apply wpAny_Call_Name_kw
  refine ld_glob I hg hm ?_ hdb
  refine PySem.W.callWith_K (h₀ := X.base) I.ok.mod.kin T.kC (thn (pa.run pos pins s σ H _ I z) ?_) h1 h2
  rintro us s1 ⟨vs, H1, J, rv, lz, q1⟩
  refine ⟨J.kIn, ?_⟩
  show wpAny _ _ (call (.ref C) us) _ _ _
  obtain ⟨G0, gs, dr, tk, os⟩ := s1
  have le : G0.objs.size ≤ G0.objs.size + 1 := Nat.le_succ _
  have q2 := q1 (G0.objs.size + 1) (J.hok.fresh le)
  have kept : ∀ b o, G0.get? b = some o → (withE G0 us C).get? b = some o := fun b o y => Heap.get?_push_of_some _ (Heap.get?_push_of_some _ y)
  have hat : (withE G0 us C).get? (G0.objs.size + 1) = some (PySem.HandSPX.excO C G0.objs.size) := by heap_get
  have J2 : Inv X pins σ (upd H1 (G0.objs.size + 1) (exo (G0.objs.size + 1) C none)) ⟨withE G0 us C, gs, dr, tk, os⟩ :=
    J.laid (t' := tk) (a := G0.objs.size + 1) (o := exo (G0.objs.size + 1) C none) (h' := withE G0 us C) kept le (exo_ok hat)
  have rv2 : Vals (V.ref (G0.objs.size + 1) :: (vs ++ [])) (Value.ref (G0.objs.size + 1) :: (us ++ [])) := .cons rfl (rv.append .nil)
  have len : (Value.ref (G0.objs.size + 1) :: us ++ []).length = ps.length := rv2.length.symm.trans (Fo.len _ _ _ _ q2)
  have bt := hb _ (Value.ref (G0.objs.size + 1) :: us) J2.kIn len
  rw [List.cons_append] at bt
  have lus : us.length ≤ sizeLine := by
    rw [← Paired.length rv, sizeLine_eq]
    omega
  apply wpAny_call
  refine PySem.HandSPX.call_own F.excBase_ValueError (fun Y => PySem.HandSPX.refsVE_contains Y bm hbm) (J.kIn _ _ hC) (PySem.W.looks_findIn J.kIn iC) (fun self => PySem.W.bind_fn J.kIn self tI) lus ?_
  refine codeAny_mono (Fo.run _ X.stack _ _ ⟨Value.ref (G0.objs.size + 1) :: us, []⟩ (Value.ref (G0.objs.size + 1) :: (us ++ [])) _ _ (fun _ _ _ => False) (hr.make C us []) (J2.env0.make C us []) bt rv2 q2) ?_
  intro res s' hq
  rcases res with er | fl
  · exact hq.elim
  · cases fl with
    | ret u =>
      obtain ⟨v, H2, os2, bare2, un2, hok2, ru, ev, d, fs, ea, ed, hd1, q3⟩ := hq
      cases ev
      obtain ⟨G2, gs2, dr2, tk2, os'⟩ := s'
      obtain ⟨_, G, K2, kG, ge, hoe, na⟩ := mk_end0 (d2 := dr2) (t2 := tk2) J le kept un2 hok2 os2 bare2 ea ed hd1
      refine ⟨ru, G0.objs.size + 1, _, _, ⟨G, gs2, dr2, tk2, os'⟩, _, .ref C, some d, rfl, K2, kG, ge, hoe, ⟨rfl, rfl, ?_⟩, rfl, rfl, na, rfl, bare2, raises_own T.exC T.tyC, q3⟩
      intro ws y
      cases y
      rfl
    | next => exact hq.elim
    | brk => exact hq.elim
    | cont => exact hq.elim
/-! several except clauses, each with a name for the error or without, or raising another error -/
abbrev Cls1 := Value × Option Nat × Bool × (Addr → Value → Option Addr → L2.TS)
/-- the ends of a suite whose error has slot i -/
def offE (sl : Option Nat) (D : Ends) : Ends := match sl with
  | none => D
  | some i => { nx := fun τ H => D.nx (τ.set i none) H, rt := D.rt, bk := fun τ H => D.bk (τ.set i none) H, ct := fun τ H => D.ct (τ.set i none) H }
def onS (sl : Option Nat) (a : Addr) (σ : L2.St) : L2.St := match sl with
  | none => σ
  | some i => σ.set i (some (.ref a))
def wMix (K : PySem.W.Frag) (Wo : Bool → WX) (D : Ends) : List Cls1 → Bool → WX
  | [], k => Wo k
  | q :: r, k => fun cls d σ H => ∃ b, PySem.W.exmOne K cls q.1 = some b ∧ (b = true → (q.2.2.1 = true → k = true) ∧ ∀ a, H a = none → q.2.2.2 a cls d (offE q.2.1 D) (onS q.2.1 a σ) H) ∧ (b = false → wMix K Wo D r k cls d σ H)
inductive Clauses (X : Cx) (Wo : Bool → WX) : List ExceptHandler → List Cls1 → Prop
  | nil : Clauses X Wo [] []
  | only {x : PySem.Str} {c : Value} {ts : Addr → Value → Option Addr → L2.TS} {s0 : Stmt} {ss : List Stmt} {p p' : Pos} {hds : List ExceptHandler} {l : List Cls1} : Names X x c →
      (∀ (a : Addr) (oe : Obj) (cls : Value) (d : Option Addr) (pn : List (Addr × Obj)), Zc cls d oe → (∃ vs, oe.data = .fields vs) → PSs (X.suite a ((a, oe) :: pn)) (s0 :: ss) (ts a cls d)) → Clauses X Wo hds l → Clauses X Wo (.ExceptHandler (some (.Name x p)) none (s0 :: ss) p' :: hds) ((c, none, false, ts) :: l)
  | named {x n : PySem.Str} {i : Nat} {c : Value} {ts : Addr → Value → Option Addr → L2.TS} {s0 : Stmt} {ss : List Stmt} {p p' : Pos} {hds : List ExceptHandler} {l : List Cls1} : Names X x c → X.N[i]? = some n → X.env.kindOf n = some .local →
      (∀ (a : Addr) (oe : Obj) (cls : Value) (d : Option Addr) (pn : List (Addr × Obj)), Zc cls d oe → (∃ vs, oe.data = .fields vs) → PSs (X.suite a ((a, oe) :: pn)) (s0 :: ss) (ts a cls d)) → Clauses X Wo hds l → Clauses X Wo (.ExceptHandler (some (.Name x p)) (some n) (s0 :: ss) p' :: hds) ((c, some i, false, ts) :: l)
  | thrw {x : PySem.Str} {c : Value} {ts : Addr → Value → Option Addr → L2.TS} {s0 : Stmt} {ss : List Stmt} {p p' : Pos} {hds : List ExceptHandler} {l : List Cls1} : Names X x c →
      (∀ (a : Addr) (oe : Obj) (cls : Value) (d : Option Addr) (pn : List (Addr × Obj)), L2.Takes (L2H.suiteX X a ((a, oe) :: pn)) (Wo false) → L2H.HotC (L2H.suiteX X a ((a, oe) :: pn)) → PSs (L2H.suiteX X a ((a, oe) :: pn)) (s0 :: ss) (ts a cls d)) → Clauses X Wo hds l → Clauses X Wo (.ExceptHandler (some (.Name x p)) none (s0 :: ss) p' :: hds) ((c, none, true, ts) :: l)
theorem Zk.steady {k : Bool} {cls : Value} {d : Option Addr} : PXN.Steady1 (Zk k cls d) := by
  cases k with
  | true => exact L2N.Zn.steady
  | false => exact PXN.steady_and PXN.steady_cls PXN.steady_dict
section
variable {X : Cx} {pins : List (Addr × Obj)} {D : Ends} {Wo : Bool → WX}
theorem off_sp {a : Addr} {q : Addr × Obj} {sl : Option Nat} {f : Flow} {s : Shared} (ok : X.Ok) (hsl : sl = none) (z : SP (X.suite a (q :: (X.pn ++ pins))) [] (offE sl D) f s) : SP X pins D f s := by
  subst hsl
  cases f with
  | ret u =>
    obtain ⟨v, τ, G, J, r, w⟩ := z
    exact ⟨v, τ, G, J.unsuite ok, r, w⟩
  | next => exact z.elim fun τ z => z.elim fun G z => ⟨τ, G, z.1.unsuite ok, z.2⟩
  | brk => exact z.elim fun τ z => z.elim fun G z => ⟨τ, G, z.1.unsuite ok, z.2⟩
  | cont => exact z.elim fun τ z => z.elim fun G z => ⟨τ, G, z.1.unsuite ok, z.2⟩
theorem off_spX {a : Addr} {q : Addr × Obj} {f : Flow} {s : Shared} (ok : X.Ok) (z : SP (L2H.suiteX X a (q :: (X.pn ++ pins))) [] D f s) : SP X pins D f s := by
  cases f with
  | ret u =>
    obtain ⟨v, τ, G, J, r, w⟩ := z
    exact ⟨v, τ, G, L2H.unsuiteX J ok, r, w⟩
  | next => exact z.elim fun τ z => z.elim fun G z => ⟨τ, G, L2H.unsuiteX z.1 ok, z.2⟩
  | brk => exact z.elim fun τ z => z.elim fun G z => ⟨τ, G, L2H.unsuiteX z.1 ok, z.2⟩
  | cont => exact z.elim fun τ z => z.elim fun G z => ⟨τ, G, L2H.unsuiteX z.1 ok, z.2⟩
/-- the clauses, one after the other, at an error that lies on the ground -/
theorem clauses_run {a : Addr} {B : Heap} {sI s' : Shared} {τ : L2.St} {G : Hp} {k : Bool} {cls : Value} {d : Option Addr} {h3 : Heap} (hst : X.stack = X.env :: X.outer) (hloc : X.env.frame = some X.env.locals) (hnd : X.N.Nodup) (htk : ∀ b, TakesB b X (Wo b)) (hpa : ∀ hd : Option Value, PassesOwnAt (model X.prog X.w) (X.A.mark hd) X.A X.env X.xe)
    (J : Inv X pins τ G sI) (nb : ∀ b o, sI.heap.get? b = some o → b ∉ frs X.stack → B.get? b = some o) (up : sI.heap.UpToSlots h3) (na : G a = none) (os : s'.os = sI.os) (ag : AllBare s'.gens) (fl : HandSPX.FlyingZ B (X.env :: X.outer) a (Zk k cls d) h3) (nL : a ≠ X.env.locals) (nF : a ∉ X.fs) :
    ∀ {hds : List ExceptHandler} {l : List Cls1}, Clauses X Wo hds l → wMix X.K Wo D l k cls d τ G → wpAny (model X.prog X.w) X.A (handleBy (.ref a) X.env hds) (SP X pins D) X.xe { s' with heap := h3 } := by
  have ok := J.ok
  have J3 : Inv X pins τ G { s' with heap := h3 } := J.landed nb fl.1 up os ag
  obtain ⟨oe, vs, he, hz, hd⟩ := fl.there
  have hz := hz.zc
  have S3 := J3.suite he hd na nL nF
  have look : PySem.W.Looks (model X.prog X.w) h3 (typeOf (.ref a)) cls := fun _ _ _ _ kp y => wpAny_typeOf_ref (kp _ _ he) (by rw [hz.1]; exact y)
  have name : ∀ {x : PySem.Str} {c : Value} {p : Pos} {Q E : Value → Shared → Prop}, Names X x c → Q c { s' with heap := h3 } → wpAny (model X.prog X.w) (X.A.mark (some (.ref a))) (eval (.Name x p) X.env) Q E { s' with heap := h3 } := by
    intro x c p Q E nm y
    rcases nm with ⟨k1, k2, k3 | ⟨k3, k4, k5⟩⟩
    · exact ld_glob (X := X.suite a ((a, oe) :: (X.pn ++ pins))) S3 k1 k3 y k2
    · exact ld_blt (X := X.suite a ((a, oe) :: (X.pn ++ pins))) S3 k1 k3 k4 y k5 k2
  intro hds l cl
  induction cl with
  | nil =>
    intro w
    refine wpAny_handleBy_nil ?_
    obtain ⟨_, _, _, oe', vs', T, _, _, g1, g2, g3, g4, g5⟩ := id fl
    unfold PySem.passOn
    refine wpAny_bind (wpAny_field g1 g3 g4 ?_)
    have nn : ¬ ((Value.ref T == Value.none) = true) := by simp
    rw [if_neg nn]
    have fly : wpAny (model X.prog X.w) X.A (setFlight (.ref a) X.env.frame) (fun _ s4 => wpAny (model X.prog X.w) X.A (throw (.ref a) : Sem Flow) (SP X pins D) X.xe s4) X.xe { s' with heap := h3 } := by
      rw [hloc]
      refine HandSPX.setFlight_upZ fl fun h4 held up4 => wpAny_throw ?_
      rw [← hst] at held
      cases k with
      | true => exact htk true _ _ ⟨a, B, sI, pins, τ, G, cls, d, rfl, J, nb, up.trans up4, .inr (.inr held), na, os, ag, w⟩
      | false => exact htk false _ _ ⟨a, B, sI, pins, τ, G, cls, d, rfl, J, nb, up.trans up4, .inr (.inr held), na, os, ag, w⟩
    first
      | exact wpAny_bind (wpAny_pure (wpAny_bind fly))
      | exact wpAny_bind fly
  | @only x c ts s0 ss p p' hds l nm su r ih =>
    intro w
    obtain ⟨b, e, yes, no⟩ := w
    refine wpAny_handleBy_cons (codeAny_handlers_test (name nm ((PySem.W.exm_one (M := model X.prog X.w) J3.kIn look e).here ?_))) (fun z => nomatch z)
    cases b with
    | false => exact ih (no rfl)
    | true =>
      refine codeAny_handlers_suite (HandSPX.lands_againZ fl fun h4 fl4 up4 => ?_)
      have J4 : Inv X pins τ G { s' with heap := h4 } := J.landed nb fl4.1 (up.trans up4) os ag
      obtain ⟨oe4, vs4, he4, hz4, hd4⟩ := fl4.there
      exact wpAny_mono ((su a oe4 cls d (X.pn ++ pins) hz4.zc ⟨_, hd4⟩).run [] _ _ G _ (J4.suite he4 hd4 na nL nF) ((yes rfl).2 a na)) (fun f s6 z => off_sp (sl := none) ok rfl z) (fun _ _ z => z.elim)
  | @named x n i c ts s0 ss p p' hds l nm hi hln su r ih =>
    intro w
    obtain ⟨b, e, yes, no⟩ := w
    refine wpAny_handleBy_cons (codeAny_handlers_test (name nm ((PySem.W.exm_one (M := model X.prog X.w) J3.kIn look e).here ?_))) (fun z => nomatch z)
    cases b with
    | false => exact ih (no rfl)
    | true =>
      refine codeAny_handlers_suite_as (HandSPX.lands_againZ fl fun h4 fl4 up4 => ?_)
      have J4 : Inv X pins τ G { s' with heap := h4 } := J.landed nb fl4.1 (up.trans up4) os ag
      obtain ⟨oe4, vs4, he4, hz4, hd4⟩ := fl4.there
      refine store_ok (X := X.suite a ((a, oe4) :: (X.pn ++ pins))) (v := .ref a) (J4.suite he4 hd4 na nL nF) hnd hi (.inl hln) rfl (fun s5 S5 => ?_) (.inr hln)
      refine wpAny_mono ((su a oe4 cls d (X.pn ++ pins) hz4.zc ⟨_, hd4⟩).run [] s5 _ G _ S5 ((yes rfl).2 a na)) (fun f s6 z => ?_) (fun _ _ z => z.elim)
      cases f with
      | ret u =>
        obtain ⟨v, τ6, G6, S6, r6, w6⟩ := z
        exact gone_ok (S6.unsuite ok) hnd hi hln fun s7 J7 => ⟨v, _, G6, J7, r6, w6⟩
      | next =>
        obtain ⟨τ6, G6, S6, w6⟩ := z
        exact gone_ok (S6.unsuite ok) hnd hi hln fun s7 J7 => ⟨_, G6, J7, w6⟩
      | brk =>
        obtain ⟨τ6, G6, S6, w6⟩ := z
        exact gone_ok (S6.unsuite ok) hnd hi hln fun s7 J7 => ⟨_, G6, J7, w6⟩
      | cont =>
        obtain ⟨τ6, G6, S6, w6⟩ := z
        exact gone_ok (S6.unsuite ok) hnd hi hln fun s7 J7 => ⟨_, G6, J7, w6⟩
  | @thrw x c ts s0 ss p p' hds l nm su r ih =>
    intro w
    obtain ⟨b, e, yes, no⟩ := w
    refine wpAny_handleBy_cons (codeAny_handlers_test (name nm ((PySem.W.exm_one (M := model X.prog X.w) J3.kIn look e).here ?_))) (fun z => nomatch z)
    cases b with
    | false => exact ih (no rfl)
    | true =>
      obtain ⟨hk, y⟩ := yes rfl
      cases hk rfl
      refine codeAny_handlers_suite (HandSPX.lands_againZ fl fun h4 fl4 up4 => ?_)
      have J4 : Inv X pins τ G { s' with heap := h4 } := J.landed nb fl4.1 (up.trans up4) os ag
      obtain ⟨oe4, vs4, he4, hz4, hd4⟩ := fl4.there
      have S4 := J4.suite he4 hd4 na nL nF
      have hz5 : L2N.Zn cls d oe4 := hz4
      have hot : L2H.HotC (L2H.suiteX X a ((a, oe4) :: (X.pn ++ pins))) := ⟨(a, oe4), ⟨rfl, vs4, hd4, hz5.2.2 vs4 hd4⟩, List.mem_cons_self⟩
      have tk4 : L2.Takes (L2H.suiteX X a ((a, oe4) :: (X.pn ++ pins))) (Wo false) := by
        rintro u9 s9 ⟨a9, B9, sI9, pn9, τ9, G9, cls9, d9, e9, J9, nb9, up9, sky9, na9, os9, ag9, w9⟩
        exact htk false u9 s9 ⟨a9, B9, sI9, pins, τ9, G9, cls9, d9, e9, L2H.unsuiteX J9 ok, nb9, up9, sky9, na9, os9, ag9, w9⟩
      exact wpAny_mono ((su a oe4 cls d (X.pn ++ pins) tk4 hot).run [] _ _ G _ (L2H.suiteX_of S4) (y a na)) (fun f s6 z => off_spX ok z) (fun e6 s6 z => hpa (some (.ref a)) e6 s6 z)
theorem ps_tryM {body : List Stmt} {c0 : ExceptHandler} {cs : List ExceptHandler} {l : List Cls1} {pos : Pos} {tb : (Bool → WX) → L2.TS} (hst : X.stack = X.env :: X.outer) (hloc : X.env.frame = some X.env.locals) (hnd : X.N.Nodup) (htk : ∀ b, TakesB b X (Wo b)) (hpa : ∀ hd : Option Value, PassesOwnAt (model X.prog X.w) (X.A.mark hd) X.A X.env X.xe)
    (pb : ∀ (V : Bool → WX) (pn : List (Addr × Obj)) (xe : Value → Shared → Prop), (∀ b, TakesB b (X.tr pn xe) (V b)) → PassesOwn (model X.prog X.w) X.A X.env xe → (∀ hd : Option Value, PassesOwnAt (model X.prog X.w) (X.A.mark hd) X.A X.env xe) → PSs (X.tr pn xe) body (tb V)) (cl : Clauses X Wo (c0 :: cs) l) {orelse : List Stmt} {u : L2.TS} (po : PSs X orelse u) :
    PS X (.Try body (c0 :: cs) orelse [] pos) (fun D σ H => tb (wMix X.K Wo D l) { D with nx := u D } σ H) := by
  constructor
  intro pins s σ H D I h
  have ok := I.ok
  have fr : X.A.frames = some (X.env :: X.outer) := by rw [ok.frames, hst]
  let ca : Value → Shared → Prop := fun e s1 => wpAny (model X.prog X.w) X.A (noteFrame e X.env) (fun _ s2 => wpAny (model X.prog X.w) X.A (setFlight e none) (fun _ s3 => wpAny (model X.prog X.w) X.A (handleBy e X.env (c0 :: cs)) (SP X pins D) X.xe s3) X.xe s2) X.xe s1
  have core : ∀ (k : Bool) (a : Addr) (B : Heap) (sI s' : Shared) (τ : L2.St) (G : Hp) (cls : Value) (d : Option Addr), Inv X pins τ G sI → (∀ b o, sI.heap.get? b = some o → b ∉ frs X.stack → B.get? b = some o) → sI.heap.UpToSlots s'.heap → Sky B X.stack a (Zk k cls d) X.env.locals s'.heap → G a = none → s'.os = sI.os → AllBare s'.gens →
      wMix X.K Wo D l k cls d τ G → ca (.ref a) s' := by
    intro k a B sI s' τ G cls d J nb up sky na os ag w
    have sky2 : Sky B (X.env :: X.outer) a (Zk k cls d) X.env.locals s'.heap := by
      rw [← hst]
      exact sky
    show wpAny (model X.prog X.w) X.A (noteFrame (.ref a) X.env) _ _ _
    refine L2N.Sky.land Zk.steady fr hloc sky2 fun h3 fl up3 => ?_
    have out : a ∉ frs (X.env :: X.outer) := by
      intro m
      obtain ⟨oe, vs, he, _, hd⟩ := fl.there
      obtain ⟨_, o', e', hnf⟩ := fl.2.2.1.mem m
      rw [he] at e'
      cases e'
      exact hnf _ hd
    refine clauses_run (B := B) (sI := sI) (s' := s') hst hloc hnd htk hpa J nb (up.trans up3) na os ag fl ?_ ?_ cl w
    · intro z
      exact out (List.mem_filterMap.mpr ⟨X.env, List.mem_cons_self, by rw [hloc, z]⟩)
    · intro m
      obtain ⟨e, he, y⟩ := List.mem_filterMap.mp m
      exact out (List.mem_filterMap.mpr ⟨e, List.mem_cons_of_mem _ he, y⟩)
  have tk2 : ∀ b, TakesB b (X.tr (X.pn ++ pins) ca) (wMix X.K Wo D l b) := by
    intro b
    cases b with
    | true =>
      rintro u s' ⟨a, B, sI, pins', τ, G, cls, d, rfl, J', nb, up, sky, na, os, ag, w⟩
      exact core true a B sI s' τ G cls d (J'.ofTry ok) nb up sky na os ag w
    | false =>
      rintro u s' ⟨a, B, sI, pins', τ, G, cls, d, rfl, J', nb, up, sky, na, os, ag, w⟩
      exact core false a B sI s' τ G cls d (J'.ofTry ok) nb up sky na os ag w
  refine wpAny_Try_except (wpAny_mono ((pb _ (X.pn ++ pins) ca tk2 PassesOwn.looking (fun _ => PassesOwnAt.looking)).run [] s σ H { D with nx := u D } (I.toTry _) h) (fun f s1 z => ?_) (fun _ _ y => y))
  cases f with
  | next =>
    obtain ⟨τ, G, J', w⟩ := z
    exact po.run pins s1 τ G D (J'.ofTry ok) w
  | brk =>
    obtain ⟨τ, G, J', w⟩ := z
    exact ⟨τ, G, J'.ofTry ok, w⟩
  | cont =>
    obtain ⟨τ, G, J', w⟩ := z
    exact ⟨τ, G, J'.ofTry ok, w⟩
  | ret u =>
    obtain ⟨v, τ, G, J', r, w⟩ := z
    exact ⟨v, τ, G, J'.ofTry ok, r, w⟩
end
theorem paired_app {α β : Type} {R : α → β → Prop} {as cs : List α} {bs ds : List β} (h : Paired R as bs) (k : Paired R cs ds) : Paired R (as ++ cs) (bs ++ ds) := by
  induction h with
  | nil => exact k
  | cons p _ ih => exact .cons p ih
theorem paired_rev {α β : Type} {R : α → β → Prop} {as : List α} {bs : List β} (h : Paired R as bs) : Paired R as.reverse bs.reverse := by
  induction h with
  | nil => exact .nil
  | cons p _ ih =>
    rw [List.reverse_cons, List.reverse_cons]
    exact paired_app ih (.cons p .nil)
theorem FR.zip {M : Ad} {ρ : List Addr} {H : Hp} : ∀ {fl : List String} {ys : List A} {vs : List V}, VRs M ρ H ys vs → FR M ρ H (fl.zip ys) ((fl.map st).zip vs)
  | [], _, _, _ => by
    rw [List.zip_nil_left, List.map_nil, List.zip_nil_left]
    exact .nil
  | _ :: _, _, _, .nil => .nil
  | _ :: _, _, _, .cons h r => .cons ⟨rfl, h⟩ (FR.zip r)
section
variable {pg : Pg} {M : Ad} {g : Fid → GQ} {k : Nat} {N : List PySem.Str}
section
variable {X : Cx} {sc : Scope} {W : Bool → WX} {xh : Xh} (o : Sok pg M g k N X sc none W)
include o
theorem s_raise {x : String} {a : E} {as : Es} {u : Expr} {us : List Expr} {p pos pos2 : Pos} (h1 : Gsc sc (st x)) (h2 : (st x == ("__debug__" : PySem.Str)) = false) (hs : (u :: us).all noStar = true) (pa : PA X (u :: us) (LEs M pg g none xh W (.cons a as))) :
    PS X (.Raise (some (.Call (.Name (st x) p) (u :: us) [] pos)) none pos2) (LS M pg g none xh W (.raise x (.cons a as))) := by
  by_cases ok : ∃ fl, pg.er x = some fl
  · obtain ⟨fl, he⟩ := ok
    obtain ⟨Ca, cl, E⟩ := o.c.G.er _ _ he
    obtain ⟨fI, fd, iC, tI, hb, F1, _⟩ := E.ini
    have oex := E.oex
    rw [o.c.hK] at oex iC tI hb F1
    have hr := (o.c.calm rfl).2
    rw [List.all_cons, Bool.and_eq_true] at hs
    have mk : L2N.PMk X (.Call (.Name (st x) p) (u :: us) [] pos) _ := mk_oexN oex iC tI F1 (hr.mono (by omega)) hb (o.c.gl h1) (o.c.G.cls _ _ cl) pa h2 (star_cons hs.1) (back_any hs.2)
    refine PS.imp (L2N.ps_raise (o.c.calm rfl).1 (o.c.tk true) mk) fun D σ H z => ?_
    obtain ⟨ρ, h, σa, xx, r, fl', e, w⟩ := z
    rw [he] at e
    cases e
    have w : wpEs pg g xx (.cons a as) σa h (fun xs h1 => xs.length = fl.length ∧ UpW M pg none xh ρ H xx W true x (fl.zip xs).reverse σa h1) (fun b c fs h1 => UpW M pg none xh ρ H xx W b c fs σa h1) := w
    refine LfL.of (o.c.esmono (.cons a as)) r w (upw_x r) fun ys h1 ρ1 H1 vs p1 m1 r1 v1 w1 => ?_
    obtain ⟨l, w1⟩ := w1
    have lv : vs.length = fl.length := by rw [← v1.length]; exact l
    refine ⟨by rw [lv]; exact E.few, fun ad na => ⟨ad, vs, by rw [List.append_nil], by rw [List.length_map]; exact lv, upd_same, fun dx nd ne => ?_⟩⟩
    have nd1 : H1 dx = none := by
      rw [upd_ne ne] at nd
      exact nd
    refine ⟨rfl, dx, _, upd_same, by rw [upd_ne ne, upd_same], nd1, ?_⟩
    rw [fresh_heap na ne]
    have mo : Mo M.K H1 (upd H1 dx (.xd ((fl.map st).zip vs).reverse)) := Mo.new nd1
    exact w1 ρ1 _ σ Ca dx _ p1 (m1.trans mo) (r1.mono (List.prefix_refl _) mo (r1.hr.other nd1)) cl upd_same (paired_rev (FR.zip (v1.mono (List.prefix_refl _) mo)))
  · constructor
    intro pins s σ H D I z
    obtain ⟨ρ, h, σa, xx, r, fl', e, w⟩ := z
    exact absurd ⟨fl', e⟩ ok
theorem Sok.suite (a : Addr) (oe : Obj) (pn : List (Addr × Obj)) (n : Option PySem.Str) : Sok pg M g k N (X.suite a ((a, oe) :: pn)) sc (some n) W0 where
  c := ⟨o.c.hN, o.c.nd, o.c.hK, o.c.hsc, o.c.gd, o.c.un, takes_no, o.c.G, fun z => nomatch z⟩
  fn := o.fn
  hp := fun z => nomatch z
  ha := fun z => nomatch z
  hs := o.hs
  hf := o.hf
  kd := o.kd
theorem Sok.tr (pn : List (Addr × Obj)) (xe : Value → Shared → Prop) (V : Bool → WX) (tk : ∀ b, TakesB b (X.tr pn xe) (V b)) (hp : PassesOwn (model X.prog X.w) X.A X.env xe) (ha : ∀ hd : Option Value, PassesOwnAt (model X.prog X.w) (X.A.mark hd) X.A X.env xe) : Sok pg M g k N (X.tr pn xe) sc none V where
  c := ⟨o.c.hN, o.c.nd, o.c.hK, o.c.hsc, o.c.gd, o.c.un, tk, o.c.G, o.c.calm⟩
  fn := o.fn
  hp := fun _ => hp
  ha := fun _ => ha
  hs := o.hs
  hf := o.hf
  kd := o.kd
theorem h_cls {c : String} (h : pg.cn c = true) (hb : btypes.contains c = false) : ∃ Da, M.cl c = some Da := by
  have z := o.c.G.cn c h
  unfold clsV at z
  cases q : M.cl c with
  | some a => exact ⟨a, rfl⟩
  | none =>
    rw [q] at z
    have nb : c ∉ btypes := fun m => by
      rw [List.contains_iff_mem.mpr m] at hb
      cases hb
    simp only [if_neg nb] at z
    cases z
/-- what a suite is handed -/
theorem suite_in {b : Ss} {D : Ends} {σ : L2.St} {H : Hp} {ρ : List Addr} {h : Hh} {σa : SA} {xx : Xx} {cc : String} {fl : List String} {fs : List (String × A)} {Ca dd a : Addr} {ws : List (PySem.Str × V)} (r : Rl M pg none xh ρ h H σa xx σ) (he : pg.er cc = some fl) (hc : M.cl cc = some Ca) (hd : H dd = some (.xd ws)) (hf : FR M ρ H fs ws)
    (w : wpSs pg g (some (cc, fs)) b ⟨fun τ h1 => UpN M pg none xh ρ H xx D.nx (unsl none τ) h1, Up M ρ H D.rt, fun τ h1 => UpN M pg none xh ρ H xx D.bk (unsl none τ) h1, fun τ h1 => UpN M pg none xh ρ H xx D.ct (unsl none τ) h1⟩ (fun _ _ _ _ _ => False) (unsl none σa) h) :
    LSs M pg g (some none) ⟨a, .ref Ca, some dd, none⟩ W0 b D σ H := by
  have up : ∀ Q : L2.St → Hp → Prop, ∀ τ h1, UpN M pg none xh ρ H xx Q (unsl none τ) h1 → UpN M pg (some none) ⟨a, .ref Ca, some dd, none⟩ ρ H (some (cc, fs)) Q τ h1 := fun Q τ h1 q ρ' H' σ' p m r' => q ρ' H' σ' p m ⟨r'.hr, r'.sr, r.sx⟩
  refine ⟨ρ, h, σa, some (cc, fs), ⟨r.hr, r.sr, ⟨⟨cc, fl, fs, Ca, dd, ws, rfl, he, rfl, hc, rfl, hd, hf⟩, fun i e => nomatch e⟩⟩, wpSs_mono o.c.G.mono b ?_ ?_ w⟩
  · exact ⟨up _, fun _ _ q => q, up _, up _⟩
  · exact fun _ _ _ _ _ z => False.elim z
theorem suite_as {b : Ss} {D : Ends} {σ : L2.St} {H : Hp} {ρ : List Addr} {h : Hh} {σa : SA} {xx : Xx} {cc : String} {fl : List String} {fs : List (String × A)} {Ca dd a : Addr} {ws : List (PySem.Str × V)} {i : Nat} {n : PySem.Str} (r : Rl M pg none xh ρ h H σa xx σ) (he : pg.er cc = some fl) (hc : M.cl cc = some Ca) (hd : H dd = some (.xd ws)) (hf : FR M ρ H fs ws) (hi : i < σa.length)
    (w : wpSs pg g (some (cc, fs)) b ⟨fun τ h1 => UpN M pg none xh ρ H xx D.nx (unsl (some i) τ) h1, Up M ρ H D.rt, fun τ h1 => UpN M pg none xh ρ H xx D.bk (unsl (some i) τ) h1, fun τ h1 => UpN M pg none xh ρ H xx D.ct (unsl (some i) τ) h1⟩ (fun _ _ _ _ _ => False) (unsl (some i) σa) h) :
    LSs M pg g (some (some n)) ⟨a, .ref Ca, some dd, some i⟩ W0 b { nx := fun σ' H' => D.nx (σ'.set i none) H', rt := D.rt, bk := fun σ' H' => D.bk (σ'.set i none) H', ct := fun σ' H' => D.ct (σ'.set i none) H' } (σ.set i (some (.ref a))) H := by
  have up : ∀ Q : L2.St → Hp → Prop, ∀ τ h1, UpN M pg none xh ρ H xx Q (unsl (some i) τ) h1 → UpN M pg (some (some n)) ⟨a, .ref Ca, some dd, some i⟩ ρ H (some (cc, fs)) (fun σ' H' => Q (σ'.set i none) H') τ h1 := fun Q τ h1 q ρ' H' σ' p m r' => q ρ' H' _ p m ⟨r'.hr, r'.sr.unset, r.sx⟩
  have hl : i < σ.length := by
    rw [← Paired.length r.sr]
    exact hi
  refine ⟨ρ, h, σa.set i none, some (cc, fs), ⟨r.hr, r.sr.unset, ⟨⟨cc, fl, fs, Ca, dd, ws, rfl, he, rfl, hc, rfl, hd, hf⟩, fun j e => ?_⟩⟩, wpSs_mono o.c.G.mono b ?_ ?_ w⟩
  · cases e
    exact List.getElem?_set_self hl
  · exact ⟨up _, fun _ _ q => q, up _, up _⟩
  · exact fun _ _ _ _ _ z => False.elim z
/-- the clauses: what they wish follows from what the machine asks -/
def Hds (pg : Pg) (M : Ad) (g : Fid → GQ) (X : Cx) (W : Bool → WX) (xh : Xh) (h : Hs) (l : List Cls1) : Prop :=
  ∀ (D : Ends) (σ : L2.St) (H : Hp) (ρ : List Addr) (hh : Hh) (σa : SA) (xx : Xx) (kk : Bool) (cc : String) (fs : List (String × A)) (Ca dd : Addr) (ws : List (PySem.Str × V)), Rl M pg none xh ρ hh H σa xx σ → M.cl cc = some Ca → H dd = some (.xd ws) → FR M ρ H fs ws →
    wpH pg g xx h kk cc fs (UpE M pg none xh ρ H xx D) (UpW M pg none xh ρ H xx W) σa hh → wMix X.K W D l kk (.ref Ca) (some dd) σ H
omit o in
theorem hds_nil : Hds pg M g X W xh .nil [] := fun D σ H ρ hh σa xx kk cc fs Ca dd ws r hc hd hf w => w ρ H σ Ca dd ws (List.prefix_refl _) Mo.refl r hc hd hf
theorem hds_cons {c : String} {sl : Option Nat} {n : PySem.Str} {b : Ss} {r : Hs} {l : List Cls1} {Da : Addr} (hn : pg.cn c = true) (hc : M.cl c = some Da) (ih : Hds pg M g X W xh r l) :
    Hds pg M g X W xh (.cons [c] sl b r) ((.ref Da, sl, false, fun a cls d => LSs M pg g (some (sl.map fun _ => n)) ⟨a, cls, d, sl⟩ W0 b) :: l) := by
  intro D σ H ρ hh σa xx kk cc fs Ca dd ws rr hcc hd hf w
  obtain ⟨e, w⟩ := w
  obtain ⟨fl, he⟩ := Option.isSome_iff_exists.mp e
  refine ⟨(pg.up cc).contains c, o.c.hK ▸ o.c.G.exm cc c Ca Da fl hn he hcc hc, fun z => ⟨fun y => Bool.noConfusion y, fun a na => ?_⟩, fun z => ?_⟩
  · have z2 : ([c].any fun d => (pg.up cc).contains d) = true := by
      rw [List.any_cons, z]
      rfl
    rw [if_pos z2] at w
    cases sl with
    | none => exact suite_in o rr he hcc hd hf w.2
    | some i => exact suite_as o rr he hcc hd hf w.1 w.2
  · have z2 : ¬ (([c].any fun d => (pg.up cc).contains d) = true) := by
      rw [List.any_cons, z]
      simp
    rw [if_neg z2] at w
    exact ih D σ H ρ hh σa xx kk cc fs Ca dd ws rr hcc hd hf w
theorem hds_thrw {c x : String} {i : Nat} {v : PySem.Str} {r : Hs} {l : List Cls1} {Da : Addr} {p2 p3 p4 p5 p6 : Pos} {j : Nat} (hn : pg.cn c = true) (hc : M.cl c = some Da) (gx : Gsc sc (st x)) (dx : (st x == ("__debug__" : PySem.Str)) = false) (hi : N[i]? = some v)
    (hv : sc.names.lookup v = some .local ∨ sc.names.lookup v = some .cell) (hv2 : (v == ("__debug__" : PySem.Str)) = false) (hv3 : (v == ("__classdict__" : PySem.Str)) = false) (ih : Hds pg M g X W xh r l) :
    ∃ ts : Addr → Value → Option Addr → L2.TS, (∀ (a : Addr) (oe : Obj) (cls : Value) (d : Option Addr) (pn : List (Addr × Obj)), L2.Takes (L2H.suiteX X a ((a, oe) :: pn)) (W false) → L2H.HotC (L2H.suiteX X a ((a, oe) :: pn)) →
      PSs (L2H.suiteX X a ((a, oe) :: pn)) [.Raise (some (.Call (.Name (st x) p2) [.Name v p3] [] p4)) (some (.Constant .none j p5)) p6] (ts a cls d)) ∧ Hds pg M g X W xh (.thrw [c] x (.cons (.var i) .nil) r) ((.ref Da, none, true, ts) :: l) := by
  by_cases ok : ∃ fl, pg.er x = some fl
  · obtain ⟨fx, hx⟩ := ok
    obtain ⟨Cx, clx, E⟩ := o.c.G.er _ _ hx
    obtain ⟨fI, fd, iC, tI, hb, _, F1⟩ := E.ini
    have oex := E.oex
    rw [o.c.hK] at oex iC tI hb F1
    have hr := (o.c.calm rfl).2
    refine ⟨fun _ _ _ _ σ H => tMkO Cx (iniS Cx (fx.map st)) [] (tCons (tVar i) tNil) σ H fun cls d H' => W false cls d σ H', fun a oe cls d pn tk hot => ?_, ?_⟩
    · have pv : PE (L2H.suiteX X a ((a, oe) :: pn)) (.Name v p3) (tVar i) := pe_var (by show X.N[i]? = _; rw [o.c.hN]; exact hi) (by show X.env.scope.names.lookup v = _ ∨ _; rw [o.c.hsc]; exact hv.elim .inl fun z => .inr (.inl z)) hv2 hv3
      have mk := L2H.pmk5_oexH (X := L2H.suiteX X a ((a, oe) :: pn)) (p := p2) (pos := p4) oex iC tI F1 (L2H.roomH_mark (hr.mono (by omega)) _) hot hb pass0 (o.c.gl gx) (o.c.G.cls _ _ clx) (pa_cons pv pa_nil) dx
      exact pss_one (L2H.ps_raiseHN hot tk mk)
    · intro D σ H ρ hh σa xx kk cc fs Ca dd ws rr hcc hd hf w
      obtain ⟨e, w⟩ := w
      obtain ⟨fl, he⟩ := Option.isSome_iff_exists.mp e
      refine ⟨(pg.up cc).contains c, o.c.hK ▸ o.c.G.exm cc c Ca Da fl hn he hcc hc, fun z => ?_, fun z => ?_⟩
      · have z2 : ([c].any fun d => (pg.up cc).contains d) = true := by
          rw [List.any_cons, z]
          rfl
        rw [if_pos z2] at w
        obtain ⟨hk, fl2, e2, w⟩ := w
        rw [hx] at e2
        cases e2
        refine ⟨fun _ => hk, fun a na => ?_⟩
        obtain ⟨va, ev, lz, w1⟩ := w
        obtain ⟨y, gy, vy⟩ := rr.sr.get ev
        refine ⟨y, gy, by show 1 ≤ 1000; decide, fun ad nad => ⟨ad, [y], rfl, by rw [List.length_map, ← lz]; rfl, upd_same, fun dx nd ne => ?_⟩⟩
        have nd1 : H dx = none := by
          rw [upd_ne ne] at nd
          exact nd
        refine ⟨rfl, dx, _, upd_same, by rw [upd_ne ne, upd_same], nd1, ?_⟩
        rw [fresh_heap nad ne]
        have mo : Mo M.K H (upd H dx (.xd ((fx.map st).zip [y]).reverse)) := Mo.new nd1
        exact w1 ρ _ σ Cx dx _ (List.prefix_refl _) mo (rr.mono (List.prefix_refl _) mo (rr.hr.other nd1)) clx upd_same (paired_rev (FR.zip (.cons (vy.mono (List.prefix_refl _) mo) .nil)))
      · have z2 : ¬ (([c].any fun d => (pg.up cc).contains d) = true) := by
          rw [List.any_cons, z]
          simp
        rw [if_neg z2] at w
        exact ih D σ H ρ hh σa xx kk cc fs Ca dd ws rr hcc hd hf w
  · refine ⟨fun _ _ _ _ _ _ => False, fun a oe cls d pn tk hot => ⟨fun pins s σ H D I z => z.elim⟩, ?_⟩
    intro D σ H ρ hh σa xx kk cc fs Ca dd ws rr hcc hd hf w
    obtain ⟨e, w⟩ := w
    obtain ⟨fl, he⟩ := Option.isSome_iff_exists.mp e
    refine ⟨(pg.up cc).contains c, o.c.hK ▸ o.c.G.exm cc c Ca Da fl hn he hcc hc, fun z => ?_, fun z => ?_⟩
    · have z2 : ([c].any fun d => (pg.up cc).contains d) = true := by
        rw [List.any_cons, z]
        rfl
      rw [if_pos z2] at w
      obtain ⟨_, fl2, e2, w⟩ := w
      exact absurd ⟨_, e2⟩ ok
    · have z2 : ¬ (([c].any fun d => (pg.up cc).contains d) = true) := by
        rw [List.any_cons, z]
        simp
      rw [if_neg z2] at w
      exact ih D σ H ρ hh σa xx kk cc fs Ca dd ws rr hcc hd hf w
theorem s_try {b : Ss} {h : Hs} {body : List Stmt} {hd : ExceptHandler} {hds : List ExceptHandler} {pos : Pos} (pb : ∀ (V : Bool → WX) (pn : List (Addr × Obj)) (xe : Value → Shared → Prop), (∀ b, TakesB b (X.tr pn xe) (V b)) → PassesOwn (model X.prog X.w) X.A X.env xe → (∀ hd : Option Value, PassesOwnAt (model X.prog X.w) (X.A.mark hd) X.A X.env xe) → PSs (X.tr pn xe) body (LSs M pg g none xh V b)) (ph : hsOk pg h = true → ∃ l, Clauses X W (hd :: hds) l ∧ Hds pg M g X W xh h l) {el : Ss} {orelse : List Stmt} (pe : PSs X orelse (LSs M pg g none xh W el)) :
    PS X (.Try body (hd :: hds) orelse [] pos) (LS M pg g none xh W (.try b h el)) := by
  by_cases ok : hsOk pg h = true
  · obtain ⟨l, hl, hq⟩ := ph ok
    refine PS.imp (ps_tryM (tb := fun V => LSs M pg g none xh V b) o.hs o.hf (by rw [o.c.hN]; exact o.c.nd) o.c.tk (o.ha rfl) pb hl pe) fun D σ H z => ?_
    obtain ⟨ρ, hh, σa, xx, r, _, w⟩ := z
    refine ⟨ρ, hh, σa, xx, r, wpSs_mono o.c.G.mono b ?_ ?_ w⟩
    · exact ⟨fun σ1 h1 q ρ' H' σ' p m r' => ⟨ρ', h1, σ1, xx, r', wpSs_mono o.c.G.mono el (UpE.mono p m) (UpW.mono p m) q⟩, fun _ _ q => q, fun _ _ q => q, fun _ _ q => q⟩
    intro kk cc fs σ1 h1 w1 ρ' H' σ' C d ws p m r' hc hd hf
    exact hq D σ' H' ρ' h1 σ1 xx kk cc fs C d ws r' hc hd hf (wpH_mono o.c.G.mono h (UpE.mono p m) (UpW.mono p m) w1)
  · constructor
    intro pins s σ H D I z
    obtain ⟨ρ, hh, σa, xx, r, e, w⟩ := z
    exact absurd e ok
end
end
end Z

/-! ### every statement -/
namespace Z
open PySem PySem.Spec PyProof.Rows L2
section
variable {pg : Pg} {M : Ad} {g : Fid → GQ} {k : Nat} {N : List PySem.Str}
mutual
theorem sS {hot : Hot} {sc : Scope} {s : S} {e : Stmt} (t : TS N hot sc s e) {X : Cx} {W : Bool → WX} {xh : Xh} (o : Sok pg M g k N X sc hot W) (hk : Hok N sc X hot xh) : PS X e (LS M pg g hot xh W s) := by
  match t with
  | .set h1 h2 h0 h3 t1 => exact s_set o hk h1 h2 h0 (swaps_no h3) (sE t1 o.c hk).e
  | .setL h1 h2 h3 h4 t1 =>
    cases t1 with
    | lc b1 b2 t1 t2 t3 t4 => exact s_setL o h1 h2 h3 h4 b1 b2 (sI t1 o.c hk) (fun y => t1.folded _ y) (fun s H C cl fp => sG (b := some _) (o.c.blk s H _ C cl fp) (fun _ z => z) t2) (fun s H C cl fp => sC t3 (o.c.blk s H _ C cl fp)) (fun s H C cl fp => (sE t4 (o.c.blk s H _ C cl fp) trivial).e)
  | .setC h1 h2 t1 => exact s_set o hk h1 (.inr h2) (fun z => nomatch z) (swaps_cell (by rw [o.c.hsc]; exact h2)) (sE t1 o.c hk).e
  | .asg t1 t2 h => exact s_asg o t1 (sE t2 o.c hk).e h
  | .par2 h1 h2 h3 h4 h5 h6 h7 h8 h9 t1 t2 => exact s_par2 o h1 h2 h3 h4 h5 h6 h7 h8 h9 t1.star t2.star (sEs (.cons t1 (.cons t2 .nil)) o.c hk).a
  | .sub t1 t2 t3 => exact s_sub o (sE t1 o.c hk).e (sE t2 o.c hk).e (sE t3 o.c hk).e (fun v => t3.asgSub _ _ v)
  | .parS t1 t2 t3 t4 t5 t6 => exact s_parS o (sE (.tup (.cons t1 (.cons t2 .nil))) o.c hk).e (sE t3 o.c hk).e (sE t4 o.c hk).e (sE t5 o.c hk).e (sE t6 o.c hk).e (fun v => t4.asgSub _ _ v) (fun v => t6.asgSub _ _ v)
  | .fld t1 t2 => exact s_fld o (sE t1 o.c hk).e (sE t2 o.c hk).e
  | .aug h1 h2 h0 h9 t1 => exact s_aug o hk h9 h1 h2 h0 (sE t1 o.c hk).e
  | .augF t1 t2 => exact s_augF o (sE t1 o.c hk).e (sE t2 o.c hk).e
  | .ite t1 t2 t3 => exact s_ite o (sE t1 o.c hk).t (sSs t2 o hk) (sSs t3 o hk)
  | .for t1 t2 t3 => exact s_for o t1 (sI t1 o.c hk) t2 (sSs t3 o hk)
  | .while t1 t2 => exact s_while o (sE t1 o.c hk).t (sSs t2 o hk)
  | .ret t1 => exact s_ret o (sE t1 o.c hk).e
  | .retN => exact s_retN o
  | .ex h t1 => exact s_ex o h (sE t1 o.c hk).e
  | .raise h1 h2 t1 t2 => exact s_raise o h1 h2 (TEs.star (.cons t1 t2)) (sEs (.cons t1 t2) o.c hk).a
  | .pass => exact s_pass o
  | .brk => exact s_brk o
  | .cont => exact s_cont o
  | .bad => exact ⟨fun pins s σ H D I z => z.elim fun ρ z => z.elim fun h z => z.elim fun σa z => z.elim fun xx z => z.2.elim⟩
  | .try t1 t2 t3 => exact s_try o (fun V pn xe tk hp ha => sSs t1 (o.tr pn xe V tk hp ha) trivial) (fun h => sH t2 o h) (sSs t3 o trivial)
theorem sSs {hot : Hot} {sc : Scope} {s : Ss} {e : List Stmt} (t : TSs N hot sc s e) {X : Cx} {W : Bool → WX} {xh : Xh} (o : Sok pg M g k N X sc hot W) (hk : Hok N sc X hot xh) : PSs X e (LSs M pg g hot xh W s) := by
  match t with
  | .nil => exact s_nil o
  | .cons t1 t2 => exact s_cons o (sS t1 o hk) (sSs t2 o hk)
theorem sH {sc : Scope} {h : Hs} {e : List ExceptHandler} (t : TH N sc h e) {X : Cx} {W : Bool → WX} {xh : Xh} (o : Sok pg M g k N X sc none W) (ok : hsOk pg h = true) : ∃ l, Clauses X W e l ∧ Hds pg M g X W xh h l := by
  match t with
  | .nil => exact ⟨[], .nil, hds_nil⟩
  | .only h1 h2 t1 t2 =>
    have ok2 := ok
    simp only [hsOk, List.all_cons, List.all_nil, Bool.and_true, Bool.and_eq_true, Bool.not_eq_true'] at ok2
    obtain ⟨Da, hD⟩ := h_cls o ok2.1.1 ok2.1.2
    obtain ⟨l, p, q⟩ := sH t2 o ok2.2
    exact ⟨_, .only ⟨o.c.gl h1, h2, .inl (o.c.G.cls _ _ hD)⟩ (fun a oe cls d pn hz hd => sSs t1 (o.suite a oe pn none) ⟨X, oe, pn, rfl, hz, hd, fun _ => rfl, fun n e => nomatch e⟩) p, hds_cons (sl := none) (n := PySem.Str.empty) o ok2.1.1 hD q⟩
  | .named (n := nn) h1 h2 h3 h4 h5 h6 t1 t2 =>
    have ok2 := ok
    simp only [hsOk, List.all_cons, List.all_nil, Bool.and_true, Bool.and_eq_true, Bool.not_eq_true'] at ok2
    obtain ⟨Da, hD⟩ := h_cls o ok2.1.1 ok2.1.2
    obtain ⟨l, p, q⟩ := sH t2 o ok2.2
    have hln : X.env.kindOf nn = some .local := by
      unfold Env.kindOf
      rw [o.c.hsc]
      exact h4
    exact ⟨_, .named ⟨o.c.gl h1, h2, .inl (o.c.G.cls _ _ hD)⟩ (by rw [o.c.hN]; exact h3) hln (fun a oe cls d pn hz hd => sSs t1 (o.suite a oe pn _) ⟨X, oe, pn, rfl, hz, hd, (fun z => nomatch z), fun n e => by cases e; exact ⟨_, rfl, h3, h4, h5, h6⟩⟩) p, hds_cons (sl := some _) o ok2.1.1 hD q⟩
  | .thrw h1 h2 h3 h4 h5 h6 h7 h8 t2 =>
    have ok2 := ok
    simp only [hsOk, List.all_cons, List.all_nil, Bool.and_true, Bool.and_eq_true, Bool.not_eq_true'] at ok2
    obtain ⟨Da, hD⟩ := h_cls o ok2.1.1 ok2.1.2
    obtain ⟨l, p, q⟩ := sH t2 o ok2.2
    obtain ⟨ts, s1, s2⟩ := hds_thrw o ok2.1.1 hD h3 h4 h5 h6 h7 h8 q
    exact ⟨_, .thrw ⟨o.c.gl h1, h2, .inl (o.c.G.cls _ _ hD)⟩ s1 p, s2⟩
end
end
end Z

/-! ### from the machine's calls to the layer's defs -/
namespace Z
open PySem PySem.Spec PyProof.Rows L2
/-- a def of the text, whatever its defaults -/
structure FunZ (K : PySem.W.Frag) (x qual : PySem.Str) (s0 : Stmt) (f : Addr) (fd : FuncData) : Prop where
  ex : ∃ (oc : Value) (od : Option Addr) (dV kV doc pm : Value) (an : Option Addr) (cdv ct : Value) (osl : Array (Option Value)),
    fd = PySem.W.fnOf x qual (defArgs s0) (defBody s0) (defScope s0) dV kV doc pm an cdv ct ∧ K.lookup f = some ⟨oc, od, .func fd, osl⟩ ∧ PySem.W.codeIn K cdv qual = true
theorem FunZ.of {K : PySem.W.Frag} {x qual : PySem.Str} {s0 : Stmt} {f : Addr} {fd : FuncData} (F : Fun K x qual s0 f fd) : FunZ K x qual s0 f fd := by
  obtain ⟨oc, od, kV, doc, pm, an, cdv, ct, osl, e, lk, hcd⟩ := F.ex
  exact ⟨⟨oc, od, .none, kV, doc, pm, an, cdv, ct, osl, e, lk, hcd⟩⟩
section
variable {P : Program} {w : World} {K : PySem.W.Frag} {mg : PySem.Str → Option Value} {base : Heap} {k : Nat} {f : Addr} {fd : FuncData} {ps : List PySem.Str} {sp : SpZ}
/-- a def by its body -/
theorem fnZ_of {x qual : PySem.Str} {s0 : Stmt} {N : List PySem.Str} (F : FunZ K x qual s0 f fd) (S : FnScope N ps (defScope s0)) (len : ∀ vs H Q E, sp vs H Q E → vs.length = ps.length)
    (hbody : ∀ (cdv : Value) (A : Around) (outer : List Env) (s : Shared) (H : Hp) (vs : List V) (Q : VK) (E : Bool → XK), A.guards = some [] →
      Room k (A.deeper (envOfC qual (defScope s0) s.heap.objs.size f cdv)) → sp vs H Q E →
      ∃ t, PSs (cxOf (fun o H s _ e s' => CXz P w o H s E e s') P w K mg base N qual (defScope s0) f cdv A outer s H (fun _ _ _ => False)) (defBody s0) t ∧ t { nx := fun _ H' => Q .non H', rt := Q } (start N vs) H) :
    FnZ P w K mg base (k + 1) f fd ps sp := by
  obtain ⟨oc, od, dV, kV, doc, pm, an, cdv, ct, osl, rfl, lk, hcd⟩ := F.ex
  constructor
  · exact len
  · intro A outer s H args us vs Q E hgd hr e0 hb r hsp
    have old : ∀ {b : Addr} {o : Obj}, base.get? b = some o → s.heap.get? b = some o := fun e => (e0.bs _ _ e).1
    have kin : K.In s.heap := e0.mod.kin.keeps fun _ _ e => old e
    have nol : s.heap.NoLimit := e0.mod.nolimit.keeps fun _ _ e => old e
    have kinds : ∀ y ∈ ps.zip us, (defScope s0).names.lookup y.1 = some .local ∨ ((defScope s0).names.lookup y.1 = some .cell ∧ ((cellsFrom (s.heap.objs.size + 1) (defScope s0).names []).lookup y.1).isSome = true) := by
      rintro ⟨n, v⟩ hy
      rcases S.par n (List.of_mem_zip hy).1 with q | q
      · exact .inl q
      · exact .inr ⟨q, PySem.W.cellsFrom_some _ _ _ (.inl q)⟩
    refine codeAny_call_function hr.depth (kin _ _ lk) rfl S.co S.gen rfl (PySem.W.codeRec_of kin hcd) ?_
    apply hb
    refine wpAny_newFunctionEnv_cells S.kind kinds fun env he s1 x => ?_
    subst he
    refine ⟨nol.keeps x.toInCall.keep, codeAny_func ?_⟩
    obtain ⟨t, ht, hq⟩ := hbody cdv A outer s H vs Q E hgd (hr.deeper _) hsp
    have I := inv_start (CX := fun o H s _ e s' => CXz P w o H s E e s') (E := fun _ _ _ => False) (f := f) (cd := cdv) (qual := qual) S hr.hd e0 (len _ _ _ _ hsp) r x
    refine wpAny_mono (ht.run [] s1 (start N vs) H _ I hq) ?_ (fun e s' hs => hs)
    intro fl s' hs
    cases fl with
    | ret u =>
      obtain ⟨v, σ', H', J, rv, q⟩ := hs
      exact ⟨v, H', J.os, J.bare, J.base, J.hok, rv, q⟩
    | next =>
      obtain ⟨σ', H', J, q⟩ := hs
      exact ⟨V.non, H', J.os, J.bare, J.base, J.hok, rfl, q⟩
    | brk =>
      obtain ⟨_, _, _, q⟩ := hs
      cases q
    | cont =>
      obtain ⟨_, _, _, q⟩ := hs
      cases q
end
/-- the text of a def, and its form in the machine -/
structure DefT (K : PySem.W.Frag) (x qual : PySem.Str) (s0 : Stmt) (fn : Fn) (f : Addr) (fd : FuncData) : Prop where
  F : FunZ K x qual s0 f fd
  b : ∀ j, j ≤ fn.df → Binds K fd (fn.ps.map st) (List.replicate j .none)
  t : ∃ N : List PySem.Str, N.length = fn.n ∧ FnScope N (fn.ps.map st) (defScope s0) ∧ TSs N none (defScope s0) fn.body (defBody s0)
def xh0 : Xh := ⟨0, .none, none, none⟩
theorem room_un {k : Nat} {A : Around} (h : Room k A) : A.units + 65 < cLine := by
  have := h.un
  omega
theorem fnZ_step {pg : Pg} {M : Ad} {P : Program} {w : World} {mg : PySem.Str → Option Value} {base : Heap} {k : Nat} {x qual : PySem.Str} {s0 : Stmt} {fn : Fn} {f : Addr} {fd : FuncData} {fi : Fid} (G : Gok pg M P w mg base (Γ pg k) k) (T : DefT M.K x qual s0 fn f fd)
    (hf : pg.at fi = some fn) : FnZ P w M.K mg base (3 * (k + 1)) f fd (fn.ps.map st) (spOf M (Γ pg (k + 1) fi) fn.ps.length) := by
  obtain ⟨N, hN, S, t⟩ := T.t
  have len : ∀ vs H Q E, spOf M (Γ pg (k + 1) fi) fn.ps.length vs H Q E → vs.length = (fn.ps.map st).length := by
    intro vs H Q E z
    obtain ⟨ρ, h, as, l, hr, vr, _⟩ := z
    rw [← vr.length, l, List.length_map]
  refine fnZ_of (k := 3 * k + 2) T.F S len ?_
  intro cdv A outer s H vs Q E hgd hr hsp
  obtain ⟨ρ, h, as, l, hrr, vr, fn', e, l2, w'⟩ := hsp
  rw [hf] at e
  cases e
  have hgd2 : (A.deeper (envOfC qual (defScope s0) s.heap.objs.size f cdv)).guards = some [] := hgd
  have o : Sok pg M (Γ pg k) k N (cxOf (fun o H s _ e s' => CXz P w o H s E e s') P w M.K mg base N qual (defScope s0) f cdv A outer s H (fun _ _ _ => False)) (defScope s0) none (fun b cls d _ H' => E b cls d H') := by
    refine ⟨⟨rfl, S.nd, rfl, rfl, hgd2, room_un hr, fun b => ?_, G, fun _ => ⟨rfl, hr⟩⟩, fun _ => rfl, fun _ => ?_, fun _ hd => PassesOwnAt.leaving, rfl, rfl, S.kind⟩
    · cases b with
      | false =>
        intro u s' z
        exact wpAny_mono (XE.leave (W := fun cls d _ H => E false cls d H) (E := E false) rfl rfl rfl (fun _ _ _ _ h => h) z) (fun _ _ q => ⟨false, q⟩) (fun _ _ q => q)
      | true =>
        intro u s' z
        exact wpAny_mono (L2N.XE.leave (W := fun cls d _ H => E true cls d H) (E := E true) rfl rfl rfl (fun _ _ _ _ h => h) z) (fun _ _ q => ⟨true, q⟩) (fun _ _ q => q)
    · exact PassesOwn.leaving
  refine ⟨_, sSs t o (xh := xh0) trivial, ρ, h, startA N.length as, none, ⟨hrr, SR.start vr N, rfl⟩, wpSs_mono (Γ_mono pg k) fn.body ?_ ?_ (by rw [hN]; exact w')⟩
  · refine ⟨fun _ h1 q ρ' H' σ' p m r => ?_, fun _ _ q => q, fun _ _ z => False.elim z, fun _ _ z => False.elim z⟩
    exact q ρ' H' .non p m r.hr .non
  · intro b c fs _ h1 q ρ' H' σ' C d ws p m r hc hd hf'
    exact q ρ' H' C d ws p m r.hr hc hd hf'
/-- what does not hang on how deep calls go -/
structure Stat (pg : Pg) (M : Ad) (P : Program) (w : World) (mg : PySem.Str → Option Value) (base : Heap) : Prop where
  blt : ∀ x ∈ bnames, mg (st x) = none
  cn : ∀ c, pg.cn c = true → (clsV M c).isSome = true
  obk : ∀ x ∈ bkinds, M.ob x = false
  bve : mg (st "ValueError") = none
  con : ∀ x v, pg.c x = some v → ∃ u v', mg (st x) = some u ∧ RelV v' u ∧ ∀ ρ H, VR M ρ H v v'
  cls : ∀ C Ca, M.cl C = some Ca → mg (st C) = some (.ref Ca)
  obj : ∀ C Ca, M.ob C = true → M.cl C = some Ca → Cls M.K Ca ∧ PySem.W.findIn M.K (.ref Ca) "__class__" = some (some (.builtin "object.__class__")) ∧ PySem.W.specialIn M.K (.builtin "object.__class__") "__get__" = some (some (.builtin "getset_descriptor.__get__")) ∧
    PySem.W.takesIn M.K (.builtin "object.__class__") = some true ∧ PySem.W.mroIn M.K Ca (.type "object") = some true
  na : ∀ C Ca f, M.cl C = some Ca → (pg.fl C).contains f = true → NoAttr M.K Ca (st f)
  kit : ∀ C Ca c v u, pg.cn c = true → M.cl C = some Ca → clsV M c = some (v, u) → PySem.W.kitOne M.K (.ref Ca) u = some (isB pg C c)
  kitB : ∀ t c v u, pg.cn c = true → t ∈ bkinds → clsV M c = some (v, u) → PySem.W.kitOne M.K (.type t) u = some (isB pg t c)
  d : ∀ x fn, pg.d x = some fn → ∃ f fd q s0, mg (st x) = some (.ref f) ∧ PySem.W.keepIn M.K (.ref f) = true ∧ DefT M.K (st x) q s0 fn f fd
  m : ∀ C m fn Ca, pg.m C m = some fn → m ≠ "__init__" → M.cl C = some Ca → Cls M.K Ca ∧ ∃ f fd q s0, Meth M.K Ca (st m) f ∧ DefT M.K (st m) q s0 fn f fd
  i : ∀ C fn, pg.m C "__init__" = some fn → M.ob C = true ∧ ∃ Ca f fd q s0, M.cl C = some Ca ∧ Mk M.K Ca f ∧ DefT M.K (st "__init__") q s0 fn f fd
  fa : ∀ x fn, pg.d x = some fn → ∃ f, M.fa x = some f ∧ mg (st x) = some (.ref f)
  er : ∀ x fl, pg.er x = some fl → ∃ Ca, M.cl x = some Ca ∧ ErrZ P w M.K mg base fl Ca
  exm : ∀ c d Ca Da fl, pg.cn d = true → pg.er c = some fl → M.cl c = some Ca → M.cl d = some Da → PySem.W.exmOne M.K (.ref Ca) (.ref Da) = some ((pg.up c).contains d)
theorem fnZ_zero {pg : Pg} {M : Ad} {P : Program} {w : World} {mg : PySem.Str → Option Value} {base : Heap} {fi : Fid} {f : Addr} {fd : FuncData} {ps : List PySem.Str} {n : Nat} : FnZ P w M.K mg base (3 * 0) f fd ps (spOf M (Γ pg 0 fi) n) := by
  constructor
  · intro vs H Q E z
    obtain ⟨ρ, h, as, l, hr, vr, z⟩ := z
    exact False.elim z
  · intro A outer s H args us vs Q E _ _ _ _ _ z
    obtain ⟨ρ, h, as, l, hr, vr, z⟩ := z
    exact False.elim z
theorem gok_all {pg : Pg} {M : Ad} {P : Program} {w : World} {mg : PySem.Str → Option Value} {base : Heap} (T : Stat pg M P w mg base) : ∀ k, Gok pg M P w mg base (Γ pg k) k
  | 0 => by
    refine ⟨Γ_mono pg 0, T.blt, T.cn, T.obk, T.bve, T.con, T.cls, T.obj, T.na, T.kit, T.kitB, ?_, ?_, ?_, T.fa, T.er, T.exm⟩
    · intro x fn e
      obtain ⟨f, fd, q, s0, h1, h2, h3⟩ := T.d x fn e
      exact ⟨f, fd, h1, h2, h3.b, fnZ_zero⟩
    · intro C m fn Ca e hm hc
      obtain ⟨h0, f, fd, q, s0, h1, h3⟩ := T.m C m fn Ca e hm hc
      exact ⟨h0, f, fd, h1, h3.b, fnZ_zero⟩
    · intro C fn e
      obtain ⟨h0, Ca, f, fd, q, s0, h1, h2, h3⟩ := T.i C fn e
      exact ⟨h0, Ca, f, fd, h1, h2, h3.b, fnZ_zero⟩
  | k + 1 => by
    have G := gok_all T k
    refine ⟨Γ_mono pg (k + 1), T.blt, T.cn, T.obk, T.bve, T.con, T.cls, T.obj, T.na, T.kit, T.kitB, ?_, ?_, ?_, T.fa, T.er, T.exm⟩
    · intro x fn e
      obtain ⟨f, fd, q, s0, h1, h2, h3⟩ := T.d x fn e
      exact ⟨f, fd, h1, h2, h3.b, fnZ_step G h3 (fi := .d x) e⟩
    · intro C m fn Ca e hm hc
      obtain ⟨h0, f, fd, q, s0, h1, h3⟩ := T.m C m fn Ca e hm hc
      exact ⟨h0, f, fd, h1, h3.b, fnZ_step G h3 (fi := .m C m) e⟩
    · intro C fn e
      obtain ⟨h0, Ca, f, fd, q, s0, h1, h2, h3⟩ := T.i C fn e
      exact ⟨h0, Ca, f, fd, h1, h2, h3.b, fnZ_step G h3 (fi := .m C "__init__") e⟩
end Z

/-! ### the end: errors' classes, the law's call -/
namespace Z
open PySem PySem.Spec PyProof.Rows L2
/-- the errors' own base -/
structure BaseZ (K : PySem.W.Frag) (mg : PySem.Str → Option Value) (L : Addr) : Prop where
  gL : mg "LoreError" = some (.ref L)
  rd : PySem.W.readsIn K L (.type "type") = true
  ga : PySem.W.specialIn K (.ref L) "__getattribute__" = some (some (.builtin "type.__getattribute__"))
  vI : PySem.W.findCls K (.ref L) (.type "type") "__init__" = some (.val (.builtin "ValueError.__init__"))
theorem pe_base {X : Cx} {L : Addr} {e : Expr} {es : List Expr} {ta : L2.TA} {p1 p2 pos : Pos} (B : BaseZ X.K X.mg L) (hg : Gl X "LoreError") (ha : PA X (e :: es) ta) (hs : (e :: es).all noStar = true) (hl : (e :: es).length < 30) (hp : (p2.endLine == pos.line) = true) :
    PE X (.Call (.Attribute (.Name "LoreError" p1) "__init__" p2) (e :: es) [] pos) (tVeI X.K ta) := by
  constructor
  intro pins s σ H Q I h
  refine PySem.W.methodCall_KW (ld_glob I hg B.gL ?_) (meth_eval rfl hs hl hp)
  refine PySem.W.method_cls I.kIn B.ga (PySem.W.cls_value I.kIn B.rd B.vI (by decide +kernel) ?_)
  rw [List.all_cons, Bool.and_eq_true] at hs
  show wpAny _ _ (callWith pos (Value.builtin "ValueError.__init__") [] (backTo pos (starEach (e :: es) X.env)) []) _ _ _
  refine PyProof.Rows.callWith_method1 (thn (ha.run pos pins _ σ H _ (I.tok _) h) ?_) (star_cons hs.1) (back_any hs.2)
  intro us s1 hh
  obtain ⟨vs, H1, I1, r1, a, C, ws, ev, hl, T, ea, q⟩ := hh
  subst ev
  cases r1 with
  | @cons _ u0 _ ur ra rw' =>
    have e0 : u0 = Value.ref a := ra
    subst e0
    refine oinit_ok T I1 ea ?_ fun s' J => ⟨.non, H1, J, rfl, q⟩
    have z := Paired.length rw'
    rw [sizeLine_eq]
    omega
/-- __init__ that keeps one thing; that keeps two -/
def ini1 (f : PySem.Str) (s0 : Stmt) : Prop := ∃ (z : PySem.Str) (j : Nat) (p1 p2 p3 p4 p5 p6 p7 p8 p9 p10 : Pos), defBody s0 = [.Expr (.Call (.Attribute (.Name "LoreError" p1) "__init__" p2) [.Name "self" p3, .Constant (.str z) j p4] [] p5) p6, .Assign [.Attribute (.Name "self" p7) f p8] (.Name f p9) p10] ∧
  (p2.endLine == p5.line) = true ∧ FnScope ["self", f] ["self", f] (defScope s0) ∧ Gsc (defScope s0) ("LoreError" : PySem.Str) ∧ (f == ("__debug__" : PySem.Str)) = false ∧ (f == ("__classdict__" : PySem.Str)) = false
def ini2 (f f2 : PySem.Str) (s0 : Stmt) : Prop := ∃ (z : PySem.Str) (j : Nat) (p1 p2 p3 p4 p5 p6 p7 p8 p9 p10 q7 q8 q9 q10 : Pos), defBody s0 = [.Expr (.Call (.Attribute (.Name "LoreError" p1) "__init__" p2) [.Name "self" p3, .Constant (.str z) j p4] [] p5) p6, .Assign [.Attribute (.Name "self" p7) f p8] (.Name f p9) p10, .Assign [.Attribute (.Name "self" q7) f2 q8] (.Name f2 q9) q10] ∧
  (p2.endLine == p5.line) = true ∧ FnScope ["self", f, f2] ["self", f, f2] (defScope s0) ∧ Gsc (defScope s0) ("LoreError" : PySem.Str) ∧ ((f == ("__debug__" : PySem.Str)) = false ∧ (f == ("__classdict__" : PySem.Str)) = false) ∧ (f2 == ("__debug__" : PySem.Str)) = false ∧ (f2 == ("__classdict__" : PySem.Str)) = false
section
variable {P : Program} {w : World} {K : PySem.W.Frag} {mg : PySem.Str → Option Value} {base : Heap}
theorem ini1_in {f : PySem.Str} {s0 : Stmt} {qn : PySem.Str} {fI C L : Addr} {b : Bool} {pn : List (Addr × Obj)} {xe : Value → Shared → Prop} {cdv : Value} {A : Around} {outer : List Env} {s : Shared} {H : Hp} {vs : List V} {Q : VK} {E : XK} (B : BaseZ K mg L) (O : OexC K C) (noF : PySem.W.findIn K (.ref C) f = some none) (T : ini1 f s0) (h : iniS C [f] vs H Q E) :
    ∃ t, PSs { cxOf CX0 P w K mg base ["self", f] qn (defScope s0) fI cdv A outer s H E with calm := b, pn := pn, xe := xe } (defBody s0) t ∧ t { nx := fun _ H' => Q .non H', rt := Q } (L2.start ["self", f] vs) H := by
  obtain ⟨z, j, p1, p2, p3, p4, p5, p6, p7, p8, p9, p10, hb, hp, S, hL, h1, h2⟩ := T
  obtain ⟨a, ws, rfl, e, ha, q⟩ := h
  match ws, e, q with
  | [v], _, q =>
    rw [hb]
    have v0 : ∀ p, PE ({ cxOf CX0 P w K mg base ["self", f] qn (defScope s0) fI cdv A outer s H E with calm := b, pn := pn, xe := xe } : Cx) (.Name "self" p) (tVar 0) := fun p => pe_var rfl (S.par "self" List.mem_cons_self |>.elim .inl fun z => .inr (.inl z)) (by decide) (by decide)
    have v1 : ∀ p, PE ({ cxOf CX0 P w K mg base ["self", f] qn (defScope s0) fI cdv A outer s H E with calm := b, pn := pn, xe := xe } : Cx) (.Name f p) (tVar 1) := fun p => pe_var rfl (S.par f (List.mem_cons_of_mem _ List.mem_cons_self) |>.elim .inl fun z => .inr (.inl z)) h1 h2
    refine ⟨_, pss_cons (ps_expr (pe_base B hL (pa_cons (v0 p3) (pa_cons pe_str pa_nil)) rfl (show 2 < 30 by decide) hp)) (pss_one (ps_ost (v0 p7) (v1 p9))), ?_⟩
    refine ⟨_, rfl, a, C, [_], rfl, (by show 1 ≤ 1000; decide), O, ha, ?_⟩
    exact ⟨_, rfl, _, rfl, a, C, rfl, O, noF, .inl ⟨ha, fun dx h1 h2 => q dx h1 h2⟩⟩
theorem ini2_in {f f2 : PySem.Str} {s0 : Stmt} {qn : PySem.Str} {fI C L : Addr} {b : Bool} {pn : List (Addr × Obj)} {xe : Value → Shared → Prop} {cdv : Value} {A : Around} {outer : List Env} {s : Shared} {H : Hp} {vs : List V} {Q : VK} {E : XK} (B : BaseZ K mg L) (O : OexC K C) (noF : PySem.W.findIn K (.ref C) f = some none) (noF2 : PySem.W.findIn K (.ref C) f2 = some none) (T : ini2 f f2 s0) (h : iniS C [f, f2] vs H Q E) :
    ∃ t, PSs { cxOf CX0 P w K mg base ["self", f, f2] qn (defScope s0) fI cdv A outer s H E with calm := b, pn := pn, xe := xe } (defBody s0) t ∧ t { nx := fun _ H' => Q .non H', rt := Q } (L2.start ["self", f, f2] vs) H := by
  obtain ⟨z, j, p1, p2, p3, p4, p5, p6, p7, p8, p9, p10, q7, q8, q9, q10, hb, hp, S, hL, ⟨h1, h2⟩, h3, h4⟩ := T
  obtain ⟨a, ws, rfl, e, ha, q⟩ := h
  match ws, e, q with
  | [v, v'], _, q =>
    rw [hb]
    have v0 : ∀ p, PE ({ cxOf CX0 P w K mg base ["self", f, f2] qn (defScope s0) fI cdv A outer s H E with calm := b, pn := pn, xe := xe } : Cx) (.Name "self" p) (tVar 0) := fun p => pe_var rfl (S.par "self" List.mem_cons_self |>.elim .inl fun z => .inr (.inl z)) (by decide) (by decide)
    have v1 : ∀ p, PE ({ cxOf CX0 P w K mg base ["self", f, f2] qn (defScope s0) fI cdv A outer s H E with calm := b, pn := pn, xe := xe } : Cx) (.Name f p) (tVar 1) := fun p => pe_var rfl (S.par f (List.mem_cons_of_mem _ List.mem_cons_self) |>.elim .inl fun z => .inr (.inl z)) h1 h2
    have v2 : ∀ p, PE ({ cxOf CX0 P w K mg base ["self", f, f2] qn (defScope s0) fI cdv A outer s H E with calm := b, pn := pn, xe := xe } : Cx) (.Name f2 p) (tVar 2) := fun p => pe_var rfl (S.par f2 (List.mem_cons_of_mem _ (List.mem_cons_of_mem _ List.mem_cons_self)) |>.elim .inl fun z => .inr (.inl z)) h3 h4
    refine ⟨_, pss_cons (ps_expr (pe_base B hL (pa_cons (v0 p3) (pa_cons pe_str pa_nil)) rfl (show 2 < 30 by decide) hp)) (pss_cons (ps_ost (v0 p7) (v1 p9)) (pss_one (ps_ost (v0 q7) (v2 q9)))), ?_⟩
    refine ⟨_, rfl, a, C, [_], rfl, (by show 1 ≤ 1000; decide), O, ha, ?_⟩
    refine ⟨_, rfl, _, rfl, a, C, rfl, O, noF, .inl ⟨ha, fun dx h1 h2 => ?_⟩⟩
    refine ⟨_, rfl, _, rfl, a, C, rfl, O, noF2, .inr ⟨dx, [(f, v)], upd_same, by rw [upd_ne h2, upd_same], (by show 1 ≤ 900; decide), ?_⟩⟩
    have e : ∀ u u', upd (upd (upd H dx u) a (exo a C (some dx))) dx u' = upd (upd H dx u') a (exo a C (some dx)) := by
      intro u u'
      funext b
      by_cases z1 : b = dx
      · subst z1
        rw [upd_same, upd_ne h2, upd_same]
      · rw [upd_ne z1]
        by_cases z2 : b = a
        · subst z2
          rw [upd_same, upd_same]
        · rw [upd_ne z2, upd_ne z2, upd_ne z1, upd_ne z1]
    rw [e]
    exact q dx h1 h2
theorem iniS_len {C : Addr} {f : PySem.Str} {fl : List PySem.Str} (vs : List V) (H : Hp) (Q : VK) (E : XK) (h : iniS C fl vs H Q E) : vs.length = (f :: fl).length := by
  obtain ⟨a, ws, rfl, e, _⟩ := h
  rw [List.length_cons, e, List.length_cons]
/-- an __init__, where nothing is handled and in a suite -/
theorem ini_both {s0 : Stmt} {qn : PySem.Str} {fI C : Addr} {fd : FuncData} {fl : List PySem.Str} (F : Fun K "__init__" qn s0 fI fd) (S : FnScope ("self" :: fl) ("self" :: fl) (defScope s0))
    (run : ∀ (b : Bool) (pn : List (Addr × Obj)) (xe : Value → Shared → Prop) (cdv : Value) (A : Around) (outer : List Env) (s : Shared) (H : Hp) (vs : List V) (Q : VK) (E : XK), iniS C fl vs H Q E →
      ∃ t, PSs { cxOf CX0 P w K mg base ("self" :: fl) qn (defScope s0) fI cdv A outer s H E with calm := b, pn := pn, xe := xe } (defBody s0) t ∧ t { nx := fun _ H' => Q .non H', rt := Q } (L2.start ("self" :: fl) vs) H) :
    FnOk P w K mg base CX0 1 fI fd ("self" :: fl) (iniS C fl) ∧ L2H.FnH P w K mg base CX0 1 fI fd ("self" :: fl) (iniS C fl) := by
  refine ⟨F.ok S iniS_len fun cdv A outer s H vs Q E hr h => run true [] _ cdv A outer s H vs Q E h, ?_⟩
  obtain ⟨oc, od, kV, doc, pm, an, cdv, ct, osl, rfl, lk, hcd⟩ := F.ex
  exact L2H.fn_ofH lk hcd S iniS_len fun A outer s H vs Q E p _ _ h => run false [p] _ cdv A outer s H vs Q E h
end
/-- the facts of an error's class but its fields and its __init__ -/
theorem errZ_mk {P : Program} {w : World} {K : PySem.W.Frag} {mg : PySem.Str → Option Value} {base : Heap} {C L : Addr} {nm qn : PySem.Str} {N : Addr} {bs : List Value} {sn : List PySem.Str} {sub : List Value} {ab : Bool} {col : Option Bool} {dd : Option Addr} {m0 m1 m2 m3 m5 : Option Value}
    (fl : List String) (few : fl.length ≤ 1000)
    (xL : K.lookup C = some (excClassObj nm qn C N bs [.ref L, .type "ValueError", .type "Exception", .type "BaseException", .type "object"] true sn sub ab col dd m0 m1 m2 m3 m5 "ValueError.__new__"))
    (sa : PySem.W.findIn K (.ref C) "__setattr__" = some (some (.builtin "object.__setattr__"))) (ga : PySem.W.findIn K (.ref C) "__getattribute__" = some (some (.builtin "BaseException.__getattribute__"))) (gg : PySem.W.findIn K (.ref C) "__getattr__" = some none)
    (kC : PySem.W.keepIn K (.ref C) = true) (eC : PySem.W.subIn K (.ref C) (.type "BaseException") = some true) (tC : PySem.W.typeIn K (.ref C) = some (.type "type")) (hC : PySem.W.hasDictIn K C = true) (iC : PySem.W.isClsIn K C = true)
    (ha : PySem.W.findIn K (.ref C) "__class__" = some (some (.builtin "object.__class__"))) (hm : PySem.W.mroIn K C (.type "object") = some true)
    (hn : PySem.W.specialIn K (.builtin "object.__class__") "__get__" = some (some (.builtin "getset_descriptor.__get__"))) (ht : PySem.W.takesIn K (.builtin "object.__class__") = some true) (noF : ∀ f ∈ fl, PySem.W.findIn K (.ref C) (st f) = some none)
    (ini : OexC K C → ∃ (fI : Addr) (fd : FuncData), PySem.W.findIn K (.ref C) "__init__" = some (some (.ref fI)) ∧ PySem.W.typeIn K (.ref fI) = some (.type "function") ∧ Binds K fd ("self" :: fl.map st) [] ∧
      FnOk P w K mg base CX0 1 fI fd ("self" :: fl.map st) (iniS C (fl.map st)) ∧ L2H.FnH P w K mg base CX0 1 fI fd ("self" :: fl.map st) (iniS C (fl.map st))) : ErrZ P w K mg base fl C where
  few := few
  oex := ⟨⟨nm, qn, N, bs, _, sn, sub, ab, col, dd, m0, m1, m2, m3, m5, xL, by rfl⟩, sa, eC, tC, kC⟩
  noF := noF
  xf := ⟨ga, gg, eC, hC⟩
  hcl := iC
  ha := ha
  hm := hm
  hn := hn
  ht := ht
  ini := ini ⟨⟨nm, qn, N, bs, _, sn, sub, ab, col, dd, m0, m1, m2, m3, m5, xL, by rfl⟩, sa, eC, tC, kC⟩
theorem errZ_1 {P : Program} {w : World} {K : PySem.W.Frag} {mg : PySem.Str → Option Value} {base : Heap} {C L fI : Addr} {q : PySem.Str} {s0 : Stmt} {f : String} {oc : Value} {od an : Option Addr} {osl : Array (Option Value)} {kV doc pm cdv ct : Value} (B : BaseZ K mg L) (O : OexC K C) (T : ini1 (st f) s0)
    (hb : ∀ (kV doc pm : Value) (an : Option Addr) (cdv ct : Value) (us : List Value), us.length = 2 → bindArgs (PySem.W.fnOf "__init__" q (defArgs s0) (defBody s0) (defScope s0) .none kV doc pm an cdv ct) ⟨us, []⟩ = pure ((["self", st f] : List PySem.Str).zip us))
    (i : PySem.W.findIn K (.ref C) "__init__" = some (some (.ref fI))) (l : K.lookup fI = some ⟨oc, od, .func (PySem.W.fnOf "__init__" q (defArgs s0) (defBody s0) (defScope s0) .none kV doc pm an cdv ct), osl⟩)
    (c : PySem.W.codeIn K cdv q = true) (k : PySem.W.keepIn K (.ref fI) = true) (tI : PySem.W.typeIn K (.ref fI) = some (.type "function")) (noF : PySem.W.findIn K (.ref C) (st f) = some none) :
    ∃ (fI : Addr) (fd : FuncData), PySem.W.findIn K (.ref C) "__init__" = some (some (.ref fI)) ∧ PySem.W.typeIn K (.ref fI) = some (.type "function") ∧ Binds K fd ("self" :: [f].map st) [] ∧
      FnOk P w K mg base CX0 1 fI fd ("self" :: [f].map st) (iniS C ([f].map st)) ∧ L2H.FnH P w K mg base CX0 1 fI fd ("self" :: [f].map st) (iniS C ([f].map st)) := by

  have T2 := T
  obtain ⟨z, j, p1, p2, p3, p4, p5, p6, p7, p8, p9, p10, hb2, hp, S, _⟩ := T2
  exact ⟨fI, _, i, tI, (fun_mk l c k).binds hb, ini_both (fun_mk l c k) S fun b pn xe cdv A outer s H vs Q E h => ini1_in B O noF T h⟩
theorem errZ_2 {P : Program} {w : World} {K : PySem.W.Frag} {mg : PySem.Str → Option Value} {base : Heap} {C L fI : Addr} {q : PySem.Str} {s0 : Stmt} {f f2 : String} {oc : Value} {od an : Option Addr} {osl : Array (Option Value)} {kV doc pm cdv ct : Value} (B : BaseZ K mg L) (O : OexC K C) (T : ini2 (st f) (st f2) s0)
    (hb : ∀ (kV doc pm : Value) (an : Option Addr) (cdv ct : Value) (us : List Value), us.length = 3 → bindArgs (PySem.W.fnOf "__init__" q (defArgs s0) (defBody s0) (defScope s0) .none kV doc pm an cdv ct) ⟨us, []⟩ = pure ((["self", st f, st f2] : List PySem.Str).zip us))
    (i : PySem.W.findIn K (.ref C) "__init__" = some (some (.ref fI))) (l : K.lookup fI = some ⟨oc, od, .func (PySem.W.fnOf "__init__" q (defArgs s0) (defBody s0) (defScope s0) .none kV doc pm an cdv ct), osl⟩)
    (c : PySem.W.codeIn K cdv q = true) (k : PySem.W.keepIn K (.ref fI) = true) (tI : PySem.W.typeIn K (.ref fI) = some (.type "function")) (noF : PySem.W.findIn K (.ref C) (st f) = some none) (noF2 : PySem.W.findIn K (.ref C) (st f2) = some none) :
    ∃ (fI : Addr) (fd : FuncData), PySem.W.findIn K (.ref C) "__init__" = some (some (.ref fI)) ∧ PySem.W.typeIn K (.ref fI) = some (.type "function") ∧ Binds K fd ("self" :: [f, f2].map st) [] ∧
      FnOk P w K mg base CX0 1 fI fd ("self" :: [f, f2].map st) (iniS C ([f, f2].map st)) ∧ L2H.FnH P w K mg base CX0 1 fI fd ("self" :: [f, f2].map st) (iniS C ([f, f2].map st)) := by

  have T2 := T
  obtain ⟨z, j, p1, p2, p3, p4, p5, p6, p7, p8, p9, p10, q7, q8, q9, q10, hb2, hp, S, _⟩ := T2
  exact ⟨fI, _, i, tI, (fun_mk l c k).binds hb, ini_both (fun_mk l c k) S fun b pn xe cdv A outer s H vs Q E h => ini2_in B O noF noF2 T h⟩
/-- a def under its name -/
theorem defZ_mk {K : PySem.W.Frag} {h : Heap} {mg : PySem.Str → Option Value} {x : String} {s0 : Stmt} {fn : Fn} {f : Addr} {oc : Value} {od an : Option Addr} {osl : Array (Option Value)} {kV doc pm cdv ct : Value} (X : K.In h) (G : h.Ns mainGlobals mg)
    (N : List PySem.Str) (hN : N.length = fn.n) (hd : fn.df = 0) (S : FnScope N (fn.ps.map st) (defScope s0)) (y : (ySs N none (defScope s0) fn.body (defBody s0)).isSome = true)
    (hb : ∀ (kV doc pm : Value) (an : Option Addr) (cdv ct : Value) (us : List Value), us.length = (fn.ps.map st).length → bindArgs (PySem.W.fnOf (st x) (st x) (defArgs s0) (defBody s0) (defScope s0) .none kV doc pm an cdv ct) ⟨us, []⟩ = pure ((fn.ps.map st).zip us))
    (a : PySem.W.nsIn K mainGlobals (st x) = some (some (.ref f))) (l : K.lookup f = some ⟨oc, od, .func (PySem.W.fnOf (st x) (st x) (defArgs s0) (defBody s0) (defScope s0) .none kV doc pm an cdv ct), osl⟩) (c : PySem.W.codeIn K cdv (st x) = true) (k : PySem.W.keepIn K (.ref f) = true) :
    ∃ f fd q s0, mg (st x) = some (.ref f) ∧ PySem.W.keepIn K (.ref f) = true ∧ DefT K (st x) q s0 fn f fd := by
  refine ⟨f, _, st x, s0, PySem.W.mg_of X G a, k, FunZ.of (fun_mk l c k), fun j hj => ?_, N, hN, S, y_ok y⟩
  rw [hd] at hj
  have e : j = 0 := Nat.le_zero.mp hj
  subst e
  exact (fun_mk l c k).binds hb
theorem methZ_mk {K : PySem.W.Frag} {m : String} {q : PySem.Str} {C : Addr} {s0 : Stmt} {fn : Fn} {f : Addr} {oc : Value} {od an : Option Addr} {osl : Array (Option Value)} {kV doc pm cdv ct : Value}
    (N : List PySem.Str) (hN : N.length = fn.n) (hd : fn.df = 0) (S : FnScope N (fn.ps.map st) (defScope s0)) (y : (ySs N none (defScope s0) fn.body (defBody s0)).isSome = true)
    (hb : ∀ (kV doc pm : Value) (an : Option Addr) (cdv ct : Value) (us : List Value), us.length = (fn.ps.map st).length → bindArgs (PySem.W.fnOf (st m) q (defArgs s0) (defBody s0) (defScope s0) .none kV doc pm an cdv ct) ⟨us, []⟩ = pure ((fn.ps.map st).zip us))
    (a : PySem.W.findIn K (.ref C) (st m) = some (some (.ref f))) (i : PySem.W.isFn K (.ref f) = true) (l : K.lookup f = some ⟨oc, od, .func (PySem.W.fnOf (st m) q (defArgs s0) (defBody s0) (defScope s0) .none kV doc pm an cdv ct), osl⟩) (c : PySem.W.codeIn K cdv q = true) (k : PySem.W.keepIn K (.ref f) = true) :
    ∃ f fd q s0, Meth K C (st m) f ∧ DefT K (st m) q s0 fn f fd := by
  refine ⟨f, _, q, s0, ⟨a, i, k⟩, FunZ.of (fun_mk l c k), fun j hj => ?_, N, hN, S, y_ok y⟩
  rw [hd] at hj
  have e : j = 0 := Nat.le_zero.mp hj
  subst e
  exact (fun_mk l c k).binds hb
theorem initZ_mk {K : PySem.W.Frag} {q : PySem.Str} {C : Addr} {s0 : Stmt} {fn : Fn} {f : Addr} {oc : Value} {od an : Option Addr} {osl : Array (Option Value)} {kV doc pm cdv ct : Value}
    (N : List PySem.Str) (hN : N.length = fn.n) (hd : fn.df = 0) (S : FnScope N (fn.ps.map st) (defScope s0)) (y : (ySs N none (defScope s0) fn.body (defBody s0)).isSome = true)
    (hb : ∀ (kV doc pm : Value) (an : Option Addr) (cdv ct : Value) (us : List Value), us.length = (fn.ps.map st).length → bindArgs (PySem.W.fnOf (st "__init__") q (defArgs s0) (defBody s0) (defScope s0) .none kV doc pm an cdv ct) ⟨us, []⟩ = pure ((fn.ps.map st).zip us))
    (mk : PySem.W.makesIn K C = true) (a : PySem.W.findIn K (.ref C) (st "__init__") = some (some (.ref f))) (i : PySem.W.isFn K (.ref f) = true) (kc : PySem.W.keepIn K (.ref C) = true) (l : K.lookup f = some ⟨oc, od, .func (PySem.W.fnOf (st "__init__") q (defArgs s0) (defBody s0) (defScope s0) .none kV doc pm an cdv ct), osl⟩) (c : PySem.W.codeIn K cdv q = true) (k : PySem.W.keepIn K (.ref f) = true) :
    ∃ f fd q s0, Mk K C f ∧ DefT K (st "__init__") q s0 fn f fd := by
  refine ⟨f, _, q, s0, ⟨mk, a, i, kc⟩, FunZ.of (fun_mk l c k), fun j hj => ?_, N, hN, S, y_ok y⟩
  rw [hd] at hj
  have e : j = 0 := Nat.le_zero.mp hj
  subst e
  exact (fun_mk l c k).binds hb
/-! ### one default, None -/
theorem binds_d {K : PySem.W.Frag} {fd : FuncData} {ps : List PySem.Str} {fn : Fn} {T : Addr} {tc : Value} {td : Option Addr} {tsl : Array (Option Value)} {its : Array Value} {nT : Nat} (hd : fn.df = 1) (lT : K.lookup T = some ⟨tc, td, .seq its nT, tsl⟩) (hi : its = #[Value.none])
    (hb0 : ∀ us : List Value, us.length = ps.length → ∃ k, bindArgs fd ⟨us, []⟩ = seqItems? (.ref T) >>= k ∧ k (some #[Value.none]) = pure (ps.zip us))
    (hb1 : ∀ us : List Value, us.length + 1 = ps.length → ∃ k, bindArgs fd ⟨us, []⟩ = seqItems? (.ref T) >>= k ∧ k (some #[Value.none]) = pure (ps.zip (us ++ [Value.none]))) : ∀ j, j ≤ fn.df → Binds K fd ps (List.replicate j .none) := by
  subst hi
  intro j hj
  rw [hd] at hj
  have hj : j = 0 ∨ j = 1 := by omega
  intro s us X hlen
  rw [List.length_append, List.length_replicate] at hlen
  refine BindsTo.of_looks fun M => ?_
  rcases hj with rfl | rfl
  · obtain ⟨k, e1, e2⟩ := hb0 us hlen
    rw [e1, List.replicate_zero, List.append_nil]
    exact looks_items X lT rfl (.of_pure e2)
  · obtain ⟨k, e1, e2⟩ := hb1 us hlen
    rw [e1]
    exact looks_items X lT rfl (.of_pure e2)
theorem defZ_mkD {K : PySem.W.Frag} {mg : PySem.Str → Option Value} {h : Heap} {x : String} (X : K.In h) (G : h.Ns mainGlobals mg) {s0 : Stmt} {fn : Fn} {f T : Addr} {oc tc : Value} {od an td : Option Addr} {osl tsl : Array (Option Value)} {kV doc pm cdv ct : Value} {its : Array Value} {nT : Nat}
    (N : List PySem.Str) (hN : N.length = fn.n) (hd : fn.df = 1) (S : FnScope N (fn.ps.map st) (defScope s0)) (y : (ySs N none (defScope s0) fn.body (defBody s0)).isSome = true)
    (hb0 : ∀ (T : Addr) (kV doc pm : Value) (an : Option Addr) (cdv ct : Value) (us : List Value), us.length = (fn.ps.map st).length → ∃ k, bindArgs (PySem.W.fnOf (st x) (st x) (defArgs s0) (defBody s0) (defScope s0) (.ref T) kV doc pm an cdv ct) ⟨us, []⟩ = seqItems? (.ref T) >>= k ∧ k (some #[Value.none]) = pure ((fn.ps.map st).zip us))
    (hb1 : ∀ (T : Addr) (kV doc pm : Value) (an : Option Addr) (cdv ct : Value) (us : List Value), us.length + 1 = (fn.ps.map st).length → ∃ k, bindArgs (PySem.W.fnOf (st x) (st x) (defArgs s0) (defBody s0) (defScope s0) (.ref T) kV doc pm an cdv ct) ⟨us, []⟩ = seqItems? (.ref T) >>= k ∧ k (some #[Value.none]) = pure ((fn.ps.map st).zip (us ++ [Value.none])))
    (a : PySem.W.nsIn K mainGlobals (st x) = some (some (.ref f))) (l : K.lookup f = some ⟨oc, od, .func (PySem.W.fnOf (st x) (st x) (defArgs s0) (defBody s0) (defScope s0) (.ref T) kV doc pm an cdv ct), osl⟩) (c : PySem.W.codeIn K cdv (st x) = true) (k : PySem.W.keepIn K (.ref f) = true) (lT : K.lookup T = some ⟨tc, td, .seq its nT, tsl⟩) (hi : its = #[Value.none]) :
    ∃ f fd q s0, mg (st x) = some (.ref f) ∧ PySem.W.keepIn K (.ref f) = true ∧ DefT K (st x) q s0 fn f fd :=
  ⟨f, _, st x, s0, PySem.W.mg_of X G a, k, ⟨⟨oc, od, .ref T, kV, doc, pm, an, cdv, ct, osl, rfl, l, c⟩⟩, binds_d hd lT hi (hb0 T kV doc pm an cdv ct) (hb1 T kV doc pm an cdv ct), N, hN, S, y_ok y⟩
theorem methZ_mkD {K : PySem.W.Frag} {m : String} {q : PySem.Str} {C : Addr} {s0 : Stmt} {fn : Fn} {f T : Addr} {oc tc : Value} {od an td : Option Addr} {osl tsl : Array (Option Value)} {kV doc pm cdv ct : Value} {its : Array Value} {nT : Nat}
    (N : List PySem.Str) (hN : N.length = fn.n) (hd : fn.df = 1) (S : FnScope N (fn.ps.map st) (defScope s0)) (y : (ySs N none (defScope s0) fn.body (defBody s0)).isSome = true)
    (hb0 : ∀ (T : Addr) (kV doc pm : Value) (an : Option Addr) (cdv ct : Value) (us : List Value), us.length = (fn.ps.map st).length → ∃ k, bindArgs (PySem.W.fnOf (st m) q (defArgs s0) (defBody s0) (defScope s0) (.ref T) kV doc pm an cdv ct) ⟨us, []⟩ = seqItems? (.ref T) >>= k ∧ k (some #[Value.none]) = pure ((fn.ps.map st).zip us))
    (hb1 : ∀ (T : Addr) (kV doc pm : Value) (an : Option Addr) (cdv ct : Value) (us : List Value), us.length + 1 = (fn.ps.map st).length → ∃ k, bindArgs (PySem.W.fnOf (st m) q (defArgs s0) (defBody s0) (defScope s0) (.ref T) kV doc pm an cdv ct) ⟨us, []⟩ = seqItems? (.ref T) >>= k ∧ k (some #[Value.none]) = pure ((fn.ps.map st).zip (us ++ [Value.none])))
    (a : PySem.W.findIn K (.ref C) (st m) = some (some (.ref f))) (i : PySem.W.isFn K (.ref f) = true) (l : K.lookup f = some ⟨oc, od, .func (PySem.W.fnOf (st m) q (defArgs s0) (defBody s0) (defScope s0) (.ref T) kV doc pm an cdv ct), osl⟩) (c : PySem.W.codeIn K cdv q = true) (k : PySem.W.keepIn K (.ref f) = true) (lT : K.lookup T = some ⟨tc, td, .seq its nT, tsl⟩) (hi : its = #[Value.none]) :
    ∃ f fd q s0, Meth K C (st m) f ∧ DefT K (st m) q s0 fn f fd :=
  ⟨f, _, q, s0, ⟨a, i, k⟩, ⟨⟨oc, od, .ref T, kV, doc, pm, an, cdv, ct, osl, rfl, l, c⟩⟩, binds_d hd lT hi (hb0 T kV doc pm an cdv ct) (hb1 T kV doc pm an cdv ct), N, hN, S, y_ok y⟩
theorem initZ_mkD {K : PySem.W.Frag} {q : PySem.Str} {C : Addr} {s0 : Stmt} {fn : Fn} {f T : Addr} {oc tc : Value} {od an td : Option Addr} {osl tsl : Array (Option Value)} {kV doc pm cdv ct : Value} {its : Array Value} {nT : Nat}
    (N : List PySem.Str) (hN : N.length = fn.n) (hd : fn.df = 1) (S : FnScope N (fn.ps.map st) (defScope s0)) (y : (ySs N none (defScope s0) fn.body (defBody s0)).isSome = true)
    (hb0 : ∀ (T : Addr) (kV doc pm : Value) (an : Option Addr) (cdv ct : Value) (us : List Value), us.length = (fn.ps.map st).length → ∃ k, bindArgs (PySem.W.fnOf (st "__init__") q (defArgs s0) (defBody s0) (defScope s0) (.ref T) kV doc pm an cdv ct) ⟨us, []⟩ = seqItems? (.ref T) >>= k ∧ k (some #[Value.none]) = pure ((fn.ps.map st).zip us))
    (hb1 : ∀ (T : Addr) (kV doc pm : Value) (an : Option Addr) (cdv ct : Value) (us : List Value), us.length + 1 = (fn.ps.map st).length → ∃ k, bindArgs (PySem.W.fnOf (st "__init__") q (defArgs s0) (defBody s0) (defScope s0) (.ref T) kV doc pm an cdv ct) ⟨us, []⟩ = seqItems? (.ref T) >>= k ∧ k (some #[Value.none]) = pure ((fn.ps.map st).zip (us ++ [Value.none])))
    (mk : PySem.W.makesIn K C = true) (a : PySem.W.findIn K (.ref C) (st "__init__") = some (some (.ref f))) (i : PySem.W.isFn K (.ref f) = true) (kc : PySem.W.keepIn K (.ref C) = true) (l : K.lookup f = some ⟨oc, od, .func (PySem.W.fnOf (st "__init__") q (defArgs s0) (defBody s0) (defScope s0) (.ref T) kV doc pm an cdv ct), osl⟩) (c : PySem.W.codeIn K cdv q = true) (lT : K.lookup T = some ⟨tc, td, .seq its nT, tsl⟩) (hi : its = #[Value.none]) :
    ∃ f fd q s0, Mk K C f ∧ DefT K (st "__init__") q s0 fn f fd :=
  ⟨f, _, q, s0, ⟨mk, a, i, kc⟩, ⟨⟨oc, od, .ref T, kV, doc, pm, an, cdv, ct, osl, rfl, l, c⟩⟩, binds_d hd lT hi (hb0 T kV doc pm an cdv ct) (hb1 T kV doc pm an cdv ct), N, hN, S, y_ok y⟩
/-! ### the law's call -/
theorem law_callZ {P : Program} {w : World} {K : PySem.W.Frag} {mg mb : PySem.Str → Option Value} {pg : Pg} {k : Nat} {fa a : Addr} {fn : Fn} {s₁ : Shared} {vs : List Value} {ns : List Int} (KX : K.In s₁.heap) (hns : s₁.heap.Ns mainGlobals mg)
    (hb : s₁.heap.Ns builtinsNs mb) (hbb : ∀ x : PySem.Str, x ≠ "__name__" → mb x = bootBuiltins x) (hlim : s₁.heap.NoLimit) (hg : s₁.gens = #[]) (ha : s₁.heap.get? a = some { cls := .type "list", data := .seq vs.toArray })
    (hi : IntsAre vs ns) (hl : ns.length ≤ sizeLine) (hr : Room (3 * k) callerA) (hfa : mg (st "law") = some (.ref fa)) (hfn : pg.d "law" = some fn) (h1' : fn.ps.length = 1) (hk1 : K.lookup sysModules = none) (hone : ∃ o es ep, s₁.heap.get? sysModules = some o ∧ o.data = .dict es ep)
    (F : ∀ base : Heap, K.In base → base.Ns mainGlobals mg → ∃ M : Ad, M.K = K ∧ Stat pg M P w mg base)
    (hw : Γ pg k (.d "law") [.fro (ns.map A.int)] [] (fun v _ => v = .bl true) (fun _ _ _ _ => False)) :
    codeAny (model P w) callerA (.call (.ref fa) ⟨[.ref a], []⟩)
      (fun r s' => r = .ok (.ret (.bool true)) ∧ OldK s₁.heap s'.heap ∧ s'.os = s₁.os ∧ AllBare s'.gens) s₁ := by
  have rv := vals_ints hi
  have lenV := hi.length
  obtain ⟨o1, es1, ep1, ho1, hd1⟩ := hone
  have h1d : sysModules ≠ a := by
    intro e
    rw [← e, ho1] at ha
    cases ha
    have d' : Data.seq vs.toArray _ = Data.dict es1 ep1 := hd1
    cases d'
  have core : ∀ H : Hp, (∀ b, H b = none ∨ ∃ ob u, H b = some (.frz ob u)) → FrL K H a (ns.map V.int) → H sysModules = some (.frz o1 (.own 0)) → HOk P w H s₁.heap → (∀ b, H b ≠ none → b = a ∨ b = sysModules) → (H a ≠ none → K.lookup a = none) →
      codeAny (model P w) callerA (.call (.ref fa) ⟨[.ref a], []⟩)
        (fun r s' => r = .ok (.ret (.bool true)) ∧ OldK s₁.heap s'.heap ∧ s'.os = s₁.os ∧ AllBare s'.gens) s₁ := by
    intro H hO hS h1 hok hA hK
    have isA : ∀ {b : Addr} {u : HO}, H b = some u → b = a ∨ b = sysModules := fun {b u} q => hA b (by rw [q]; exact fun z => nomatch z)
    have ns2 : ∀ {b : Addr} {m : PySem.Str → Option Value}, b ≠ sysModules → s₁.heap.Ns b m → (hidT s₁.heap H).Ns b m := by
      rintro b m nb ⟨o, es, ep, e, d, r⟩
      refine ⟨o, es, ep, hidT_get e ?_, d, r⟩
      cases q : H b with
      | none => rfl
      | some u =>
        rcases isA q with e' | e'
        · subst e'
          rw [ha] at e
          cases e
          have d' : Data.seq vs.toArray _ = Data.dict es ep := d
          cases d'
        · exact absurd e' nb
    have kin2 : K.In (hidT s₁.heap H) := by
      intro b o e
      refine hidT_get (KX b o e) ?_
      cases q : H b with
      | none => rfl
      | some u =>
        rcases isA q with e' | e'
        · subst e'
          rw [hK (by rw [q]; exact fun z => nomatch z)] at e
          cases e
        · subst e'
          rw [hk1] at e
          cases e
    have nol2 : (hidT s₁.heap H).NoLimit := by
      obtain ⟨mc, h1, h2⟩ := hlim
      exact ⟨mc, ns2 (by decide) h1, h2⟩
    have e0 : Env0 P w K mg (hidT s₁.heap H) callerA [] s₁ H :=
      { frames := rfl, mod := ⟨kin2, ns2 (by decide) hns, ⟨mb, ns2 (by decide) hb, hbb⟩, nol2⟩, bs := fun b o e => of_hidT e, bsz := Nat.le_of_eq (hidT_size _ _), funs := trivial, frf := fun b hb => (by cases (show b ∈ ([] : List Addr) from hb)), hok := hok, bare := .of_eq hg }
    obtain ⟨M, hMK, T⟩ := F _ kin2 (ns2 (by decide) hns)
    obtain ⟨f, fd, hf, _, bnd, FF⟩ := (gok_all T k).d "law" fn hfn
    rw [hfa] at hf
    cases hf
    rw [hMK] at bnd FF
    have hlen : (fn.ps.map st).length = 1 := by rw [List.length_map]; exact h1'
    have bt : BindsTo s₁ fd ⟨[.ref a], []⟩ ((fn.ps.map st).zip [.ref a]) := by
      have z := bnd 0 (Nat.zero_le _) s₁ [.ref a] KX (by rw [List.replicate_zero, List.append_nil, hlen]; rfl)
      rw [List.replicate_zero, List.append_nil] at z
      exact z
    have hsp : spOf M (Γ pg k (.d "law")) fn.ps.length [.ref a] H (fun v _ => v = .bl true) (fun _ _ _ _ => False) := by
      refine ⟨[], [], [.fro (ns.map A.int)], h1'.symm, ⟨rfl, List.nodup_nil, ⟨o1, h1⟩, fun n a o e => by simp at e⟩, .cons (.fro (hMK ▸ hS) (VRs.ofInts ns)) .nil, Γ_mono pg k _ _ _ _ _ _ _ (fun v h e => ?_) (fun _ _ _ _ z => z.elim) hw⟩
      subst e
      intro ρ' H' u _ _ _ vr
      cases vr
      rfl
    have run := FF.run callerA [] s₁ H ⟨[.ref a], []⟩ [.ref a] [.ref a] _ _ rfl hr e0 bt (.cons rfl .nil) hsp
    refine codeAny_mono run ?_
    intro r s' h
    rcases r with e | fl
    · obtain ⟨b, h⟩ := h
      cases b with
      | true =>
        obtain ⟨_, _, _, _, _, _, _, _, _, _, _, _, z⟩ := h
        exact z.elim
      | false =>
        obtain ⟨_, _, _, _, _, _, _, _, _, _, _, _, z⟩ := h
        exact z.elim
    · cases fl with
      | next => cases h
      | brk => cases h
      | cont => cases h
      | ret u =>
        obtain ⟨v, H', os, bare, un, hok', r', q⟩ := h
        have q' : v = .bl true := q
        subst q'
        have ru : u = Value.bool true := r'
        subst ru
        refine ⟨rfl, OldK.of_keep ?_, os, bare⟩
        intro b o e
        cases q : H b with
        | none => exact un.keep b o e q (fun z => by cases (show b ∈ ([] : List Addr) from z)) (by simp)
        | some u =>
          rcases hO b with z | ⟨ob, xs, z⟩
          · rw [q] at z
            cases z
          · obtain ⟨e1, _⟩ := hok b _ z
            obtain ⟨e2, _⟩ := hok' b _ (un.frzs b ob _ z)
            rw [e] at e1
            cases e1
            exact e2
  have ok1 : ∀ H : Hp, ObjOk P w H s₁.heap sysModules (.frz o1 (.own 0)) := fun H => ⟨ho1, o1, ho1⟩
  cases hk : K.lookup a with
  | some o =>
    have e := KX a o hk
    rw [ha] at e
    cases e
    have hsq : SqL K (fun _ => none) a (ns.map V.int) := .inr ⟨_, vs.toArray, _, hk, rfl, rfl, rfl, by rw [List.size_toArray, lenV]; exact hl, by simpa using rv⟩
    have off1 : ∀ b, b ≠ sysModules → upd (fun _ => none) sysModules (HO.frz o1 (.own 0)) b = none := fun b hb => upd_ne hb
    refine core (upd (fun _ => none) sysModules (.frz o1 (.own 0))) (fun b => ?_) (.inr hsq) upd_same (fun b u z => ?_) (fun b z => ?_) fun z => ?_
    · by_cases e : b = sysModules
      · subst e
        exact .inr ⟨_, _, upd_same⟩
      · exact .inl (off1 b e)
    · by_cases e : b = sysModules
      · subst e
        rw [upd_same] at z
        cases z
        exact ok1 _
      · rw [off1 b e] at z
        cases z
    · by_cases e : b = sysModules
      · exact .inr e
      · exact absurd (off1 b e) z
    · exact absurd (off1 a (Ne.symm h1d)) z
  | none =>
    let H0 : Hp := upd (upd (fun _ => none) a (.frz { cls := .type "list", data := .seq vs.toArray } (.lst (ns.map V.int)))) sysModules (.frz o1 (.own 0))
    have at1 : H0 sysModules = some (.frz o1 (.own 0)) := upd_same
    have at0 : H0 a = some (.frz { cls := .type "list", data := .seq vs.toArray } (.lst (ns.map V.int))) := (upd_ne (Ne.symm h1d)).trans upd_same
    have off0 : ∀ b, b ≠ a → b ≠ sysModules → H0 b = none := fun b hb h2 => (upd_ne h2).trans (upd_ne hb)
    refine core H0 ?_ (.inl ⟨_, at0⟩) at1 ?_ ?_ (fun _ => hk)
    · intro b
      by_cases h2 : b = sysModules
      · subst h2
        exact .inr ⟨_, _, at1⟩
      · by_cases hb : b = a
        · subst hb
          exact .inr ⟨_, _, at0⟩
        · exact .inl (off0 b hb h2)
    · intro b u z
      by_cases h2 : b = sysModules
      · subst h2
        rw [at1] at z
        cases z
        exact ok1 _
      · by_cases hb : b = a
        · subst hb
          rw [at0] at z
          cases z
          exact ⟨ha, by rw [List.length_map]; exact hl, vs, _, rv, ha⟩
        · rw [off0 b hb h2] at z
          cases z
    · intro b z
      by_cases h2 : b = sysModules
      · exact .inr h2
      · by_cases hb : b = a
        · exact .inl hb
        · exact absurd (off0 b hb h2) z
theorem walk_ofZ {l : PySem.W.OpenLaw} {n k : Nat} {q : Program} {loose : List PySem.Str} {XP : (PySem.Str → Option Value) → Heap → Prop} {YP : World → Heap → Prop} {d : DefRec} {K : Params → PySem.W.Frag} {pg : Pg} {fn : Fn}
    (hn : l.most = some n) (hn2 : n ≤ sizeLine) (hdf : d.params.defaults = []) (hr : Room (3 * k) callerA) (hY : ∀ (w : World) (h : Heap), YP w h → (K w.params).In h) (hnm : d.name = st "law") (hfn : pg.d "law" = some fn) (h1 : fn.ps.length = 1)
    (F : ∀ (w : World) (mg : PySem.Str → Option Value) (h : Heap), (K w.params).In h → h.Ns mainGlobals mg → ∃ M : Ad, M.K = K w.params ∧ ∀ base : Heap, Stat pg M l.prog w mg base)
    (hk1 : ∀ w : World, (K w.params).lookup sysModules = none) (him : importsNone q = true)
    (hw : ∀ ns : List Int, ns.length ≤ n → (∀ z ∈ ns, Builtin.Int.intBits z ≤ 1048576) → Γ pg k (.d "law") [.fro (ns.map A.int)] [] (fun v _ => v = .bl true) (fun _ _ _ _ => False)) : PySem.W.WalkO q loose XP YP l.row.toRowW d [] (fun f vs => PySem.call f vs) := by
  apply Att.attach_callB hn hdf
  intro w s₀ s₁ mg mb fa o pm cd doc a vs ns G Y ho hd hcd hmg hobj hints hlen hbits hg
  have KX := hY w _ Y
  rw [hnm] at hmg
  obtain ⟨M, hM, T⟩ := F w mg _ KX G.T.g
  exact law_callZ KX G.T.g G.T.b G.T.builtins G.T.nolimit hg hobj hints (Nat.le_trans hlen hn2) hr hmg hfn h1 (hk1 w) (by obtain ⟨mm, ⟨o, es, ep, e1, e2, _⟩, _⟩ := (G.T.seer him).mods; exact ⟨o, es, ep, e1, e2⟩) (fun base _ _ => ⟨M, hM, T base⟩) (hw ns hlen hbits)
end Z
namespace Z
theorem lk_all {α β : Type} [BEq α] [LawfulBEq α] {P : α → β → Prop} : ∀ {t : List (α × β)} {x : α} {y : β}, (∀ p ∈ t, P p.1 p.2) → t.lookup x = some y → P x y
  | [], _, _, _, e => by cases e
  | (a, b) :: t, x, y, h, e => by
    rw [List.lookup_cons] at e
    by_cases z : (x == a) = true
    · rw [z] at e
      cases e
      rw [eq_of_beq z]
      exact h _ List.mem_cons_self
    · have z2 : (x == a) = false := by simpa using z
      rw [z2] at e
      exact lk_all (fun p m => h p (List.mem_cons_of_mem _ m)) e
end Z

/-! ### the machine, run backwards: rules for the pure side -/
namespace Z
section
variable {pg : Pg} {g : Fid → GQ} {xx : Xx} {σ : SA} {h : Hh} {Q : QV} {Y : XQ} {D : En} {W : XS}
theorem r_var {i : Nat} {v : A} (e : σ[i]? = some (some v)) (q : Q v h) : wpE pg g xx (.var i) σ h Q Y := ⟨v, e, q⟩
theorem r_cst {v : A} (q : Q v h) : wpE pg g xx (.cst v) σ h Q Y := q
theorem r_glob {x : String} {v : A} (e : pg.c x = some v) (q : Q v h) : wpE pg g xx (.glob x) σ h Q Y := ⟨v, e, q⟩
theorem r_bin {op : PySem.Operator} {a b : E} (q : wpE pg g xx a σ h (fun x h1 => wpE pg g xx b σ h1 (fun y h2 => binW op x y h2 Q) Y) Y) : wpE pg g xx (.bin op a b) σ h Q Y := q
theorem r_cmp {op : PySem.CmpOp} {a b : E} (q : wpE pg g xx a σ h (fun x h1 => wpE pg g xx b σ h1 (fun y h2 => cmpW op x y h2 fun c => Q (.bl c) h2) Y) Y) : wpE pg g xx (.cmp op a b) σ h Q Y := q
theorem r_ch2 {o p : PySem.CmpOp} {a b c : E} (q : wpE pg g xx a σ h (fun x h1 => wpE pg g xx b σ h1 (fun y h2 => cmpW o x y h2 fun k => if k = true then wpE pg g xx c σ h2 (fun z h3 => cmpW p y z h3 fun c => Q (.bl c) h3) Y else Q (.bl false) h2) Y) Y) : wpE pg g xx (.ch2 o p a b c) σ h Q Y := q
theorem r_neg {a : E} (q : wpE pg g xx a σ h (fun x h1 => ∃ i, x = .int i ∧ Q (.int (-i)) h1) Y) : wpE pg g xx (.neg a) σ h Q Y := q
theorem r_not {a : E} (q : wpE pg g xx a σ h (fun x h1 => ∃ k, x = .bl k ∧ Q (.bl (!k)) h1) Y) : wpE pg g xx (.not a) σ h Q Y := q
theorem r_ite {c a b : E} (q : wpE pg g xx c σ h (fun x h1 => ∃ k, x = .bl k ∧ if k = true then wpE pg g xx a σ h1 Q Y else wpE pg g xx b σ h1 Q Y) Y) : wpE pg g xx (.ite c a b) σ h Q Y := q
theorem r_and1 {a : E} (q : wpE pg g xx a σ h Q Y) : wpAnd pg g xx (.cons a .nil) σ h Q Y := q
theorem r_and2 {a b : E} {r : Es} (q : wpE pg g xx a σ h (fun x h1 => ∃ k, x = .bl k ∧ if k = true then wpAnd pg g xx (.cons b r) σ h1 Q Y else Q (.bl false) h1) Y) : wpAnd pg g xx (.cons a (.cons b r)) σ h Q Y := q
theorem r_or1 {a : E} (q : wpE pg g xx a σ h Q Y) : wpOr pg g xx (.cons a .nil) σ h Q Y := q
theorem r_or2 {a b : E} {r : Es} (q : wpE pg g xx a σ h (fun x h1 => ∃ k, x = .bl k ∧ if k = true then Q (.bl true) h1 else wpOr pg g xx (.cons b r) σ h1 Q Y) Y) : wpOr pg g xx (.cons a (.cons b r)) σ h Q Y := q
theorem r_and {as : Es} (q : wpAnd pg g xx as σ h Q Y) : wpE pg g xx (.and as) σ h Q Y := q
theorem r_or {as : Es} (q : wpOr pg g xx as σ h Q Y) : wpE pg g xx (.or as) σ h Q Y := q
theorem r_idx {a b : E} (q : wpE pg g xx a σ h (fun x h1 => wpE pg g xx b σ h1 (fun y h2 => idxW x y h2 Q) Y) Y) : wpE pg g xx (.idx a b) σ h Q Y := q
theorem r_tup {as : Es} (q : wpEs pg g xx as σ h (fun xs h1 => xs.length ≤ PySem.sizeLine ∧ Q (.tup xs) h1) Y) : wpE pg g xx (.tup as) σ h Q Y := q
theorem r_lst {as : Es} (q : wpEs pg g xx as σ h (fun xs h1 => xs.length ≤ PySem.sizeLine ∧ Q (.ref h1.length) (h1 ++ [.lst xs])) Y) : wpE pg g xx (.lst as) σ h Q Y := q
theorem r_es0 {Q : QL} (q : Q [] h) : wpEs pg g xx .nil σ h Q Y := q
theorem r_es1 {a : E} {as : Es} {Q : QL} (q : wpE pg g xx a σ h (fun x h1 => wpEs pg g xx as σ h1 (fun xs h2 => Q (x :: xs) h2) Y) Y) : wpEs pg g xx (.cons a as) σ h Q Y := q
theorem r_call {f : String} {as : Es} {fn : Fn} (e : pg.d f = some fn) (l : as.len = fn.ps.length) (q : wpEs pg g xx as σ h (fun xs h1 => g (.d f) xs h1 Q Y) Y) (hg : GMono g) : wpE pg g xx (.call f as) σ h Q Y := by
  refine ⟨fn, e, Nat.le_of_eq l, by omega, wpEs_mono hg as (fun xs h1 w => ?_) (fun _ _ _ _ z => z) q⟩
  rw [l, Nat.sub_self, List.replicate_zero, List.append_nil]
  exact w
theorem r_blt {f : Bf} {as : Es} (q : wpEs pg g xx as σ h (fun xs h1 => bltW f xs h1 Q) Y) : wpE pg g xx (.blt f as) σ h Q Y := q
/-! statements -/
theorem q_nil (q : D.nx σ h) : wpSs pg g xx .nil D W σ h := q
theorem q_cons {s : S} {r : Ss} (q : wpS pg g xx s ⟨fun σ1 h1 => wpSs pg g xx r D W σ1 h1, D.rt, D.bk, D.ct⟩ W σ h) : wpSs pg g xx (.cons s r) D W σ h := q
theorem q_set {i : Nat} {e : E} (q : wpE pg g xx e σ h (fun x h1 => D.nx (σ.set i (some x)) h1) (fun b c fs h1 => W b c fs σ h1)) : wpS pg g xx (.set i e) D W σ h := q
theorem q_ret {e : E} (q : wpE pg g xx e σ h D.rt (fun b c fs h1 => W b c fs σ h1)) : wpS pg g xx (.ret e) D W σ h := q
theorem q_ex {e : E} (q : wpE pg g xx e σ h (fun _ h1 => D.nx σ h1) (fun b c fs h1 => W b c fs σ h1)) : wpS pg g xx (.ex e) D W σ h := q
theorem q_ite {c : E} {a b : Ss} (q : wpE pg g xx c σ h (fun x h1 => ∃ k, x = .bl k ∧ if k = true then wpSs pg g xx a D W σ h1 else wpSs pg g xx b D W σ h1) (fun b c fs h1 => W b c fs σ h1)) : wpS pg g xx (.ite c a b) D W σ h := q
end
/-! the heap -/
theorem hg_new {h : Hh} {o : O} : (h ++ [o])[h.length]? = some o := by simp
theorem hg_old {h : Hh} {o o' : O} {n : Nat} (e : h[n]? = some o) : (h ++ [o'])[n]? = some o := by
  rw [List.getElem?_append_left (List.getElem?_eq_some_iff.mp e).1]
  exact e
theorem hg_set {h : Hh} {o o' : O} {n : Nat} (e : h[n]? = some o') : (h.set n o)[n]? = some o := List.getElem?_set_self (List.getElem?_eq_some_iff.mp e).1
theorem hg_ne {h : Hh} {o o' : O} {n m : Nat} (ne : n ≠ m) (e : h[m]? = some o) : (h.set n o')[m]? = some o := (List.getElem?_set_ne ne).trans e
theorem dec_ite {p A B : Prop} [Decidable p] (h1 : p → A) (h2 : ¬ p → B) : if decide p = true then A else B := by
  by_cases z : p
  · rw [if_pos (decide_eq_true z)]
    exact h1 z
  · rw [if_neg (fun y => z (of_decide_eq_true y))]
    exact h2 z
end Z
namespace Z
section
variable {h : Hh} {Q : QV} {R : Bool → Prop} {i j : Int}
theorem b_add (q : Q (.int (i + j)) h) : binW .Add (.int i) (.int j) h Q := q
theorem b_sub (q : Q (.int (i - j)) h) : binW .Sub (.int i) (.int j) h Q := q
theorem b_mul (c : L2.CMul i j ∨ L2.CMulW i j) (q : Q (.int (i * j)) h) : binW .Mult (.int i) (.int j) h Q := ⟨c, q⟩
theorem b_div (c : L2.CDivW i j) (q : Q (.int (i / j)) h) : binW .FloorDiv (.int i) (.int j) h Q := ⟨c, q⟩
theorem b_mod (c : 0 < j) (q : Q (.int (i % j)) h) : binW .Mod (.int i) (.int j) h Q := ⟨c, q⟩
theorem b_pow (c : L2.CPow i j) (q : Q (.int (i ^ j.toNat)) h) : binW .Pow (.int i) (.int j) h Q := ⟨c, q⟩
theorem b_shl (c : L2.CPow i j) (q : Q (.int (i * 2 ^ j.toNat)) h) : binW .LShift (.int i) (.int j) h Q := ⟨c, q⟩
theorem b_shr (c : 0 ≤ j) (q : Q (.int (i / 2 ^ j.toNat)) h) : binW .RShift (.int i) (.int j) h Q := ⟨c, q⟩
theorem c_lt (q : R (decide (i < j))) : cmpW .Lt (.int i) (.int j) h R := q
theorem c_le (q : R (decide (i ≤ j))) : cmpW .LtE (.int i) (.int j) h R := q
theorem c_gt (q : R (decide (j < i))) : cmpW .Gt (.int i) (.int j) h R := q
theorem c_ge (q : R (decide (j ≤ i))) : cmpW .GtE (.int i) (.int j) h R := q
theorem c_eqi (q : R (decide (i = j))) : cmpW .Eq (.int i) (.int j) h R := q
theorem c_nei (q : R (!decide (i = j))) : cmpW .NotEq (.int i) (.int j) h R := q
theorem ix_l {n : Nat} {xs : List A} {v : A} (e : h[n]? = some (.lst xs)) (a : L2.atI xs i = some v) (q : Q v h) : idxW (.ref n) (.int i) h Q := by
  show match h[n]? with | some (.lst xs) => ∃ j v, A.int i = .int j ∧ L2.atI xs j = some v ∧ Q v h | _ => False
  rw [e]
  exact ⟨i, v, rfl, a, q⟩
theorem ix_t {xs : List A} {v : A} (a : L2.atI xs i = some v) (q : Q v h) : idxW (.tup xs) (.int i) h Q := ⟨v, a, q⟩
end
end Z
namespace Z
section
variable {pg : Pg} {g : Fid → GQ} {xx : Xx} {σ : SA} {h : Hh} {Q : QV} {Y : XQ} {D : En} {W : XS}
theorem q_sub {o i e : E} (q : wpE pg g xx e σ h (fun v h1 => wpE pg g xx o σ h1 (fun x h2 => wpE pg g xx i σ h2 (fun y h3 => subW x y v h3 fun h4 => D.nx σ h4) (fun b c fs h1 => W b c fs σ h1)) (fun b c fs h1 => W b c fs σ h1)) (fun b c fs h1 => W b c fs σ h1)) : wpS pg g xx (.sub o i e) D W σ h := q
theorem q_parS {o i p j : E} {as : Es} (q : wpEs pg g xx as σ h (fun t h1 => ∃ v u, t = [v, u] ∧ wpE pg g xx o σ h1 (fun x h2 => wpE pg g xx i σ h2 (fun y h3 => subW x y v h3 fun h4 => wpE pg g xx p σ h4 (fun x2 h5 => wpE pg g xx j σ h5 (fun y2 h6 => subW x2 y2 u h6 fun h7 => D.nx σ h7) (fun b c fs h1 => W b c fs σ h1)) (fun b c fs h1 => W b c fs σ h1)) (fun b c fs h1 => W b c fs σ h1)) (fun b c fs h1 => W b c fs σ h1)) (fun b c fs h1 => W b c fs σ h1)) : wpS pg g xx (.parS o i p j as) D W σ h := q
theorem ps_tw {v u : A} {P : A → A → Prop} (q : P v u) : ∃ v' u', [v, u] = [v', u'] ∧ P v' u' := ⟨v, u, rfl, q⟩
theorem su_l {n j : Nat} {k : Int} {xs : List A} {v : A} {R : Hh → Prop} (e : h[n]? = some (.lst xs)) (a : L2.ixN xs.length k = some j) (q : R (h.set n (.lst (xs.set j v)))) : subW (.ref n) (.int k) v h R := by
  show match h[n]? with | some (.lst xs) => _ | some (.dK kvs) => _ | some (.dT kvs) => _ | _ => False
  rw [e]
  exact ⟨k, j, rfl, a, q⟩
theorem q_pass (q : D.nx σ h) : wpS pg g xx .pass D W σ h := q
theorem q_brk (q : D.bk σ h) : wpS pg g xx .brk D W σ h := q
theorem q_cont (q : D.ct σ h) : wpS pg g xx .cont D W σ h := q
theorem q_asg {t : Tg} {e : E} (q : wpE pg g xx e σ h (fun x h1 => asgT t x h1 σ fun σ1 => D.nx σ1 h1) (fun b c fs h1 => W b c fs σ h1)) : wpS pg g xx (.asg t e) D W σ h := q
/-- a loop, by what holds ahead of each turn -/
theorem q_for {t : Tg} {it : I} {b : Ss} (q : wpI pg g xx it σ h (fun G xs h1 => forA G (fun x D' σ' h' => tgW t x σ' fun σ2 => wpSs pg g xx b D' W σ2 h') xs D σ h1) (fun b c fs h1 => W b c fs σ h1)) : wpS pg g xx (.for t it b) D W σ h := q
theorem forA_inv {G : Gd} {st : A → En → SA → Hh → Prop} (hm : ∀ x D D' σ h, EnLe D D' → st x D σ h → st x D' σ h) {xs : List A} (Iv : Nat → SA → Hh → Prop) (h0 : Iv 0 σ h) (hG : ∀ i σ h, i ≤ xs.length → Iv i σ h → gdOk G h)
    (step : ∀ i x σ h, xs[i]? = some x → Iv i σ h → st x ⟨Iv (i + 1), D.rt, D.nx, Iv (i + 1)⟩ σ h) (done : ∀ σ h, Iv xs.length σ h → D.nx σ h) : forA G st xs D σ h := by
  have go : ∀ (ys : List A) (i : Nat) (σ : SA) (h : Hh), xs.drop i = ys → i ≤ xs.length → Iv i σ h → forA G st ys D σ h := by
    intro ys
    induction ys with
    | nil =>
      intro i σ h e hi w
      have : i = xs.length := by
        have := congrArg List.length e
        rw [List.length_drop, List.length_nil] at this
        omega
      subst this
      exact ⟨hG _ _ _ (Nat.le_refl _) w, done σ h w⟩
    | cons y ys ih =>
      intro i σ h e hi w
      have hlt : i < xs.length := by
        have := congrArg List.length e
        rw [List.length_drop, List.length_cons] at this
        omega
      have e2 := List.drop_eq_getElem_cons hlt
      rw [e] at e2
      injection e2 with e3 e4
      refine ⟨hG _ _ _ hi w, hm y _ _ σ h ?_ (step i y σ h (by rw [e3]; exact List.getElem?_eq_getElem hlt) w)⟩
      exact ⟨fun σ' h' z => ih (i + 1) σ' h' e4.symm hlt z, fun _ _ z => z, fun _ _ z => z, fun σ' h' z => ih (i + 1) σ' h' e4.symm hlt z⟩
  exact go xs 0 σ h (List.drop_zero) (Nat.zero_le _) h0
end
end Z
namespace Z
section
variable {pg : Pg} {g : Fid → GQ} {xx : Xx} {σ : SA} {h : Hh} {Q : QV} {Y : XQ} {R : Gd → List A → Hh → Prop} {S : Gd → List A → Prop}
theorem i_ex' {e : E} (q : wpE pg g xx e σ h (fun x h1 => srcW x h1 fun G xs => R G xs h1) Y) : wpI pg g xx (.ex e) σ h R Y := q
theorem i_rng' {as : Es} (q : wpEs pg g xx as σ h (fun xs h1 => rngW xs fun G ys => R G ys h1) Y) : wpI pg g xx (.rng as) σ h R Y := q
def enmW (x : A) (h : Hh) (R : Gd → List A → Hh → Prop) : Prop := (∃ n xs, x = .ref n ∧ h[n]? = some (.lst xs) ∧ R [(n, xs)] (enA xs) h) ∨ ∃ xs, x = .tup xs ∧ R [] (enA xs) h
theorem i_enm' {e : E} (q : wpE pg g xx e σ h (fun x h1 => enmW x h1 R) Y) : wpI pg g xx (.enm e) σ h R Y := q
theorem en_l {n : Nat} {xs : List A} (e : h[n]? = some (.lst xs)) (q : R [(n, xs)] (enA xs) h) : enmW (.ref n) h R := .inl ⟨n, xs, rfl, e, q⟩
theorem en_t {xs : List A} (q : R [] (enA xs) h) : enmW (.tup xs) h R := .inr ⟨xs, rfl, q⟩
theorem gEn {x : A} (q : enmW x h R) : enmW x h R := q
theorem sr_ref {n : Nat} {xs : List A} (e : h[n]? = some (.lst xs)) (q : S [(n, xs)] xs) : srcW (.ref n) h S := ⟨xs, e, q⟩
theorem sr_tup {xs : List A} (q : S [] xs) : srcW (.tup xs) h S := q
theorem sr_fro {xs : List A} (q : S [] xs) : srcW (.fro xs) h S := q
theorem rn_1 {j : Int} (c : b62 j) (q : S [] (rngA 0 j.toNat)) : rngW [.int j] S := ⟨c, q⟩
theorem rn_2 {i j : Int} (c : b62 i) (d : b62 j) (q : S [] (rngA i (j - i).toNat)) : rngW [.int i, .int j] S := ⟨c, d, q⟩
theorem r_isi {a : E} {cs : List String} (c : cs.all pg.cn = true) (q : wpE pg g xx a σ h (fun x h1 => ∃ k, kindA h1 x = some k ∧ Q (.bl (cs.any (isB pg k))) h1) Y) : wpE pg g xx (.isi a cs) σ h Q Y := ⟨c, q⟩
theorem r_slc {a lo hi : E} (q : wpE pg g xx a σ h (fun x h1 => wpO (wpE pg g xx lo) lo σ h1 (fun l h2 => wpO (wpE pg g xx hi) hi σ h2 (fun u h3 => slcW x l u h3 Q) Y) Y) Y) : wpE pg g xx (.slc a lo hi) σ h Q Y := q
theorem r_bm {m : Bm} {o : E} {as : Es} (q : wpE pg g xx o σ h (fun x h1 => kindA h1 x = some m.T ∧ wpEs pg g xx as σ h1 (fun xs h2 => bmW m x xs h2 Q) Y) Y) : wpE pg g xx (.bm m o as) σ h Q Y := q
theorem kd_ref {n : Nat} {xs : List A} (e : h[n]? = some (.lst xs)) : kindA h (.ref n) = some "list" := by
  show (match h[n]? with | some (.lst _) => some "list" | some (.dK _) => some "dict" | some (.dT _) => some "dict" | some (.ins C _) => some C | none => none) = _
  rw [e]
theorem kd_dK {n : Nat} {kvs : List (L2.Key × A)} (e : h[n]? = some (.dK kvs)) : kindA h (.ref n) = some "dict" := by
  show (match h[n]? with | some (.lst _) => some "list" | some (.dK _) => some "dict" | some (.dT _) => some "dict" | some (.ins C _) => some C | none => none) = _
  rw [e]
end
/-- a comprehension, by what holds ahead of each turn -/
theorem lcA_inv {G : Gd} {Dn : Nat} {st : A → Hh → (Option A → Hh → Prop) → Prop} {Q : Hh → Prop} (hm : ∀ x h R R', (∀ o h, R o h → R' o h) → st x h R → st x h R') {xs : List A} {h : Hh} (Iv : Nat → Hh → Prop) (h0 : Iv 0 h) (hG : ∀ i h, i ≤ xs.length → Iv i h → gdOk G h)
    (step : ∀ i x h, xs[i]? = some x → Iv i h → st x h fun o h1 => match o with
      | none => Iv (i + 1) h1
      | some y => ∃ acc, h1[Dn]? = some (.lst acc) ∧ acc.length < PySem.sizeLine ∧ Iv (i + 1) (h1.set Dn (.lst (acc ++ [y])))) (done : ∀ h, Iv xs.length h → Q h) : lcA G Dn st Q xs h := by
  have go : ∀ (ys : List A) (i : Nat) (h : Hh), xs.drop i = ys → i ≤ xs.length → Iv i h → lcA G Dn st Q ys h := by
    intro ys
    induction ys with
    | nil =>
      intro i h e hi w
      have : i = xs.length := by
        have := congrArg List.length e
        rw [List.length_drop, List.length_nil] at this
        omega
      subst this
      exact ⟨hG _ _ (Nat.le_refl _) w, done h w⟩
    | cons y ys ih =>
      intro i h e hi w
      have hlt : i < xs.length := by
        have := congrArg List.length e
        rw [List.length_drop, List.length_cons] at this
        omega
      have e2 := List.drop_eq_getElem_cons hlt
      rw [e] at e2
      injection e2 with e3 e4
      refine ⟨hG _ _ hi w, hm y h _ _ ?_ (step i y h (by rw [e3]; exact List.getElem?_eq_getElem hlt) w)⟩
      intro o h1 z
      cases o with
      | none => exact ih (i + 1) h1 e4.symm hlt z
      | some v =>
        obtain ⟨acc, a1, a2, a3⟩ := z
        exact ⟨acc, a1, a2, ih (i + 1) _ e4.symm hlt a3⟩
  exact go xs 0 h List.drop_zero (Nat.zero_le _) h0
end Z
namespace Z
section
variable {h : Hh} {Q : QV} {xs : List A} {i j : Int} {n : Nat}
theorem f_lenF (q : Q (.int xs.length) h) : bltW .len [.fro xs] h Q := q
theorem f_lenT (q : Q (.int xs.length) h) : bltW .len [.tup xs] h Q := q
theorem f_lenL (e : h[n]? = some (.lst xs)) (q : Q (.int xs.length) h) : bltW .len [.ref n] h Q := by
  show match h[n]? with | some (.lst xs) => Q (.int xs.length) h | some (.dK kvs) => Q (.int kvs.length) h | some (.dT kvs) => Q (.int kvs.length) h | _ => False
  rw [e]
  exact q
theorem f_max (q : Q (.int (if j > i then j else i)) h) : bltW .max [.int i, .int j] h Q := q
theorem f_min (q : Q (.int (if j < i then j else i)) h) : bltW .min [.int i, .int j] h Q := q
theorem f_int (q : Q (.int i) h) : bltW .int [.int i] h Q := q
theorem f_lstT (q : Q (.ref h.length) (h ++ [.lst xs])) : bltW .list [.tup xs] h Q := q
theorem f_lstL (e : h[n]? = some (.lst xs)) (q : Q (.ref h.length) (h ++ [.lst xs])) : bltW .list [.ref n] h Q := ⟨xs, e, q⟩
theorem f_tupL (e : h[n]? = some (.lst xs)) (q : Q (.tup xs) h) : bltW .tuple [.ref n] h Q := ⟨xs, e, .inl q⟩
theorem f_tupT (q : Q (.tup xs) h) : bltW .tuple [.tup xs] h Q := q
theorem ix_f {v : A} (a : L2.atI xs i = some v) (q : Q v h) : idxW (.fro xs) (.int i) h Q := ⟨v, a, q⟩
end
end Z

/-! ### the pure side: heaps by what stays -/
namespace Z
open PySem L2
/-- all but S stays -/
structure Ke (S : List Nat) (h h' : Hh) : Prop where
  len : h.length ≤ h'.length
  old : ∀ a o, a ∉ S → h[a]? = some o → h'[a]? = some o
theorem lt_of_get {h : Hh} {a : Nat} {o : O} (e : h[a]? = some o) : a < h.length := (List.getElem?_eq_some_iff.mp e).1
theorem Ke.refl {S : List Nat} {h : Hh} : Ke S h h := ⟨Nat.le_refl _, fun _ _ _ e => e⟩
theorem Ke.step {S T : List Nat} {h h1 h2 : Hh} (b : Ke T h1 h2) (c : ∀ t ∈ T, t ∈ S ∨ h.length ≤ t) (a : Ke S h h1) : Ke S h h2 :=
  ⟨Nat.le_trans a.len b.len, fun x o ne e => b.old x o (fun m => (c x m).elim ne fun l => absurd (lt_of_get e) (Nat.not_lt.mpr l)) (a.old x o ne e)⟩
theorem Ke.mono {S T : List Nat} {h h' : Hh} (a : Ke S h h') (c : ∀ t ∈ S, t ∈ T ∨ h.length ≤ t) : Ke T h h' := Ke.step a c Ke.refl
theorem Ke.tr {S : List Nat} {h h1 h2 : Hh} (a : Ke S h h1) (b : Ke S h1 h2) : Ke S h h2 := Ke.step b (fun _ m => .inl m) a
theorem Ke.up {S : List Nat} {h h' : Hh} (a : Ke [] h h') : Ke S h h' := a.mono fun _ m => absurd m List.not_mem_nil
theorem Ke.get {S : List Nat} {h h' : Hh} {a : Nat} {o : O} (k : Ke S h h') (c : a ∉ S) (e : h[a]? = some o) : h'[a]? = some o := k.old a o c e
theorem Ke.push {h : Hh} {o : O} : Ke [] h (h ++ [o]) := ⟨by rw [List.length_append]; omega, fun _ _ _ e => hg_old e⟩
theorem Ke.set {h : Hh} {n : Nat} {o : O} : Ke [n] h (h.set n o) := ⟨by rw [List.length_set]; exact Nat.le_refl _, fun a _ ne e => hg_ne (fun z => ne (z ▸ List.mem_cons_self)) e⟩
theorem nm0 {a : Nat} : a ∉ ([] : List Nat) := List.not_mem_nil
theorem nm1 {a n : Nat} (h : a ≠ n) : a ∉ [n] := fun m => h (List.mem_singleton.mp m)
theorem nm2 {a n m : Nat} (h : a ≠ n) (h2 : a ≠ m) : a ∉ [n, m] := fun z => (List.mem_cons.mp z).elim h fun y => h2 (List.mem_singleton.mp y)
theorem kc0 {P : Nat → Prop} : ∀ t ∈ ([] : List Nat), P t := fun _ m => absurd m List.not_mem_nil
theorem kc1 {P : Nat → Prop} {n : Nat} (h : P n) : ∀ t ∈ [n], P t := fun _ m => (List.mem_singleton.mp m) ▸ h
theorem kc2 {P : Nat → Prop} {n m : Nat} (h : P n) (h2 : P m) : ∀ t ∈ [n, m], P t := fun _ z => (List.mem_cons.mp z).elim (fun y => y ▸ h) fun y => (List.mem_singleton.mp y) ▸ h2
theorem in1 {n : Nat} : n ∈ [n] := List.mem_cons_self
theorem nw {h : Hh} {o : O} {Q : QV} (q : ∀ h', Ke [] h h' → h'.length = h.length + 1 → h'[h.length]? = some o → Q (.ref h.length) h') : new h o Q := q _ Ke.push (by rw [List.length_append]; rfl) hg_new
theorem nw' {h : Hh} {o : O} {Q : QV} (q : ∀ h', Ke [] h h' → h'.length = h.length + 1 → h'[h.length]? = some o → Q (.ref h.length) h') : Q (.ref h.length) (h ++ [o]) := q _ Ke.push (by rw [List.length_append]; rfl) hg_new
theorem sw {h : Hh} {n : Nat} {o o' : O} {R : Hh → Prop} (e : h[n]? = some o) (q : ∀ h', Ke [n] h h' → h'.length = h.length → h'[n]? = some o' → R h') : R (h.set n o') := q _ Ke.set (List.length_set ..) (hg_set e)
/-- a box of draws -/
def Bx (h : Hh) (n : Nat) : Prop := ∃ a b c : Int, h[n]? = some (.lst [.int a, .int b, .int c])
theorem Bx.ke {S : List Nat} {h h' : Hh} {n : Nat} (k : Ke S h h') (c : n ∉ S) (b : Bx h n) : Bx h' n := by
  obtain ⟨x, y, z, e⟩ := b
  exact ⟨x, y, z, k.get c e⟩
theorem Bx.lt {h : Hh} {n : Nat} (b : Bx h n) : n < h.length := by
  obtain ⟨x, y, z, e⟩ := b
  exact lt_of_get e
/-! ### data, away from S -/
mutual
inductive Dn (S : List Nat) (h : Hh) : A → PyData → Prop
  | non : Dn S h .non .none
  | bl (b : Bool) : Dn S h (.bl b) (.bool b)
  | int (i : Int) : Dn S h (.int i) (.int i)
  | str (z : PySem.Str) : Dn S h (.str z) (.str z)
  | tup {xs : List A} {ds : List PyData} : DnL S h xs ds → Dn S h (.tup xs) (.tuple ds)
  | fro {xs : List A} {ds : List PyData} : DnL S h xs ds → Dn S h (.fro xs) (.list ds)
  | lst {n : Nat} {xs : List A} {ds : List PyData} : n ∉ S → h[n]? = some (.lst xs) → DnL S h xs ds → Dn S h (.ref n) (.list ds)
  | dct {n : Nat} {kvs : List (Key × A)} {ds : List PyData} : n ∉ S → h[n]? = some (.dK kvs) → DnL S h (kvs.map (·.2)) ds → Dn S h (.ref n) (.dict ((kvs.map fun p => keyD p.1).zip ds))
inductive DnL (S : List Nat) (h : Hh) : List A → List PyData → Prop
  | nil : DnL S h [] []
  | cons {x : A} {xs : List A} {d : PyData} {ds : List PyData} : Dn S h x d → DnL S h xs ds → DnL S h (x :: xs) (d :: ds)
end
mutual
theorem Dn.da {S : List Nat} {h : Hh} : ∀ {v : A} {d : PyData}, Dn S h v d → Da h v d
  | _, _, .non => .non
  | _, _, .bl b => .bl b
  | _, _, .int i => .int i
  | _, _, .str z => .str z
  | _, _, .tup t => .tup t.da
  | _, _, .fro t => .fro t.da
  | _, _, .lst _ e t => .lst e t.da
  | _, _, .dct _ e t => .dct e t.da
theorem DnL.da {S : List Nat} {h : Hh} : ∀ {v : List A} {d : List PyData}, DnL S h v d → DaL h v d
  | _, _, .nil => .nil
  | _, _, .cons a b => .cons a.da b.da
end
mutual
theorem Dn.ke {S : List Nat} {h h' : Hh} (k : Ke S h h') : ∀ {v : A} {d : PyData}, Dn S h v d → Dn S h' v d
  | _, _, .non => .non
  | _, _, .bl b => .bl b
  | _, _, .int i => .int i
  | _, _, .str z => .str z
  | _, _, .tup t => .tup (DnL.ke k t)
  | _, _, .fro t => .fro (DnL.ke k t)
  | _, _, .lst n e t => .lst n (k.get n e) (DnL.ke k t)
  | _, _, .dct n e t => .dct n (k.get n e) (DnL.ke k t)
theorem DnL.ke {S : List Nat} {h h' : Hh} (k : Ke S h h') : ∀ {v : List A} {d : List PyData}, DnL S h v d → DnL S h' v d
  | _, _, .nil => .nil
  | _, _, .cons a b => .cons (Dn.ke k a) (DnL.ke k b)
end
mutual
theorem Dn.sub {S T : List Nat} {h : Hh} (k : ∀ t ∈ T, t ∈ S ∨ h.length ≤ t) : ∀ {v : A} {d : PyData}, Dn S h v d → Dn T h v d
  | _, _, .non => .non
  | _, _, .bl b => .bl b
  | _, _, .int i => .int i
  | _, _, .str z => .str z
  | _, _, .tup t => .tup (DnL.sub k t)
  | _, _, .fro t => .fro (DnL.sub k t)
  | _, _, .lst n e t => .lst (fun m => (k _ m).elim n fun l => absurd (lt_of_get e) (Nat.not_lt.mpr l)) e (DnL.sub k t)
  | _, _, .dct n e t => .dct (fun m => (k _ m).elim n fun l => absurd (lt_of_get e) (Nat.not_lt.mpr l)) e (DnL.sub k t)
theorem DnL.sub {S T : List Nat} {h : Hh} (k : ∀ t ∈ T, t ∈ S ∨ h.length ≤ t) : ∀ {v : List A} {d : List PyData}, DnL S h v d → DnL T h v d
  | _, _, .nil => .nil
  | _, _, .cons a b => .cons (Dn.sub k a) (DnL.sub k b)
end
/-- by any heap behind that keeps all but T, where T is away -/
theorem Dn.ke' {S T : List Nat} {h h' : Hh} (k : Ke T h h') (c : ∀ t ∈ T, t ∈ S ∨ h.length ≤ t) {v : A} {d : PyData} (w : Dn S h v d) : Dn S h' v d := Dn.ke (k.mono c) w
theorem Dn.low {S : List Nat} {h : Hh} {v : A} {d : PyData} (w : Dn S h v d) : Dn [] h v d := w.sub kc0
theorem DnL.ints {S : List Nat} {h : Hh} : ∀ ns : List Int, DnL S h (ns.map A.int) (ns.map PyData.int)
  | [] => .nil
  | n :: ns => .cons (.int n) (DnL.ints ns)
theorem DnL.len {S : List Nat} {h : Hh} : ∀ {xs : List A} {ds : List PyData}, DnL S h xs ds → xs.length = ds.length
  | _, _, .nil => rfl
  | _, _, .cons _ r => congrArg (· + 1) r.len
theorem DnL.app {S : List Nat} {h : Hh} : ∀ {xs ys : List A} {ds es : List PyData}, DnL S h xs ds → DnL S h ys es → DnL S h (xs ++ ys) (ds ++ es)
  | _, _, _, _, .nil, w => w
  | _, _, _, _, .cons a r, w => .cons a (r.app w)
end Z

/-! ### the pure side: steps -/
namespace Z
open PySem L2
section
variable {pg : Pg} {g : Fid → GQ} {xx : Xx} {σ : SA} {h : Hh} {Q : QV} {Y : XQ} {D : En} {W : XS} {k : Nat}
theorem r_callG {f : String} {as : Es} {fn : Fn} (e : pg.d f = some fn) (l : as.len = fn.ps.length) (q : wpEs pg (Γ pg k) xx as σ h (fun xs h1 => Γ pg k (.d f) xs h1 Q Y) Y) : wpE pg (Γ pg k) xx (.call f as) σ h Q Y := r_call e l q (Γ_mono pg k)
theorem r_lst' {as : Es} (q : wpEs pg g xx as σ h (fun xs h1 => xs.length ≤ PySem.sizeLine ∧ new h1 (.lst xs) Q) Y) : wpE pg g xx (.lst as) σ h Q Y := q
theorem r_ch3 {o p s : PySem.CmpOp} {a b c d : E} (q : wpE pg g xx a σ h (fun x h1 => wpE pg g xx b σ h1 (fun y h2 => cmpW o x y h2 fun k => if k = true then wpE pg g xx c σ h2 (fun z h3 => cmpW p y z h3 fun k2 => if k2 = true then wpE pg g xx d σ h3 (fun u h4 => cmpW s z u h4 fun c => Q (.bl c) h4) Y else Q (.bl false) h3) Y else Q (.bl false) h2) Y) Y) : wpE pg g xx (.ch3 o p s a b c d) σ h Q Y := q
theorem r_rev {a : E} (q : wpE pg g xx a σ h (fun x h1 => ∃ n xs, x = .ref n ∧ h1[n]? = some (.lst xs) ∧ new h1 (.lst xs.reverse) Q) Y) : wpE pg g xx (.rev a) σ h Q Y := q
theorem r_dK (q : new h (.dK []) Q) : wpE pg g xx (.dnew false) σ h Q Y := q
theorem r_dT (q : new h (.dT []) Q) : wpE pg g xx (.dnew true) σ h Q Y := q
theorem r_fld {o : E} {f : String} (q : wpE pg g xx o σ h (fun x h1 => ∃ n C fs v, x = .ref n ∧ h1[n]? = some (.ins C fs) ∧ (pg.fl C).contains f = true ∧ fs.lookup f = some v ∧ Q v h1) Y) : wpE pg g xx (.fld o f) σ h Q Y := q
theorem r_xfld {f c : String} {fs : List (String × A)} {fl : List String} {v : A} (e1 : pg.er c = some fl) (e2 : fl.contains f = true) (e3 : fs.lookup f = some v) (q : Q v h) : wpE pg g (some (c, fs)) (.xfld f) σ h Q Y := ⟨c, fs, fl, v, rfl, e1, e2, e3, q⟩
theorem r_xisT {ds : List String} {c : String} {fs : List (String × A)} (e1 : ds.all pg.cn = true) (e2 : ds.any (isB pg c) = true) (q : Q (.bl true) h) : wpE pg g (some (c, fs)) (.xis ds) σ h Q Y := ⟨e1, c, fs, rfl, e2 ▸ q⟩
theorem r_xisF {ds : List String} {c : String} {fs : List (String × A)} (e1 : ds.all pg.cn = true) (e2 : ds.any (isB pg c) = false) (q : Q (.bl false) h) : wpE pg g (some (c, fs)) (.xis ds) σ h Q Y := ⟨e1, c, fs, rfl, e2 ▸ q⟩
theorem r_bx {f : Bxf} {as : Es} (q : wpEs pg g xx as σ h (fun xs h1 => bxW f xs h1 Q) Y) : wpE pg g xx (.bx f as) σ h Q Y := q
theorem r_lc {vs : List Nat} {tg : Tg} {it : I} {c elt : E} (q : wpI pg g xx it σ h (fun G xs h1 => lcA G h1.length (fun x h2 R => tgW tg x (wipeA σ vs) fun σ2 => wpC (wpE pg g xx c) c σ2 h2 (fun k h3 => if k = true then wpE pg g xx elt σ2 h3 (fun y h4 => R (some y) h4) (fun _ _ _ _ => False) else R none h3)) (Q (.ref h1.length)) xs (h1 ++ [.lst []])) Y) : wpE pg g xx (.lc vs tg it c elt) σ h Q Y := q
theorem isi_T {x : A} {cs : List String} {kk : String} (e : kindA h x = some kk) (b : cs.any (isB pg kk) = true) (q : Q (.bl true) h) : ∃ k, kindA h x = some k ∧ Q (.bl (cs.any (isB pg k))) h := ⟨kk, e, b ▸ q⟩
theorem isi_F {x : A} {cs : List String} {kk : String} (e : kindA h x = some kk) (b : cs.any (isB pg kk) = false) (q : Q (.bl false) h) : ∃ k, kindA h x = some k ∧ Q (.bl (cs.any (isB pg k))) h := ⟨kk, e, b ▸ q⟩
theorem kd_ins {n : Nat} {C : String} {fs : List (String × A)} (e : h[n]? = some (.ins C fs)) : kindA h (.ref n) = some C := by
  show (match h[n]? with | some (.lst _) => some "list" | some (.dK _) => some "dict" | some (.dT _) => some "dict" | some (.ins C _) => some C | none => none) = _
  rw [e]
theorem kd_dT {n : Nat} {kvs : List (List L2.Key × A)} (e : h[n]? = some (.dT kvs)) : kindA h (.ref n) = some "dict" := by
  show (match h[n]? with | some (.lst _) => some "list" | some (.dK _) => some "dict" | some (.dT _) => some "dict" | some (.ins C _) => some C | none => none) = _
  rw [e]
/-! statements -/
theorem q_retN (q : D.rt .non h) : wpS pg g xx .retN D W σ h := q
theorem q_raise {x : String} {as : Es} {fl : List String} (e : pg.er x = some fl) (q : wpEs pg g xx as σ h (fun xs h1 => xs.length = fl.length ∧ W true x (fl.zip xs).reverse σ h1) (fun b c fs h1 => W b c fs σ h1)) : wpS pg g xx (.raise x as) D W σ h := ⟨fl, e, q⟩
theorem q_raise1 {x f : String} {a : E} (e : pg.er x = some [f]) (q : wpE pg g xx a σ h (fun v h1 => W true x [(f, v)] σ h1) (fun b c fs h1 => W b c fs σ h1)) (hg : GMono g) : wpS pg g xx (.raise x (.cons a .nil)) D W σ h :=
  ⟨[f], e, wpE_mono hg a (fun _ _ z => ⟨rfl, z⟩) (fun _ _ _ _ z => z) q⟩
theorem q_try {b el : Ss} {hs : Hs} (e : hsOk pg hs = true) (q : wpSs pg g xx b ⟨fun σ1 h1 => wpSs pg g xx el D W σ1 h1, D.rt, D.bk, D.ct⟩ (fun k c fs σ1 h1 => wpH pg g xx hs k c fs D W σ1 h1) σ h) : wpS pg g xx (.try b hs el) D W σ h := ⟨e, q⟩
theorem h_nil {kk : Bool} {c : String} {fs : List (String × A)} (q : W kk c fs σ h) : wpH pg g xx .nil kk c fs D W σ h := q
theorem h_hit {cs : List String} {sl : Option Nat} {b : Ss} {r : Hs} {kk : Bool} {c : String} {fs : List (String × A)} (e1 : (pg.er c).isSome = true) (e2 : (cs.any fun d => (pg.up c).contains d) = true) (e3 : slOk sl σ)
    (q : wpSs pg g (some (c, fs)) b ⟨fun τ h1 => D.nx (unsl sl τ) h1, D.rt, fun τ h1 => D.bk (unsl sl τ) h1, fun τ h1 => D.ct (unsl sl τ) h1⟩ (fun _ _ _ _ _ => False) (unsl sl σ) h) : wpH pg g xx (.cons cs sl b r) kk c fs D W σ h := ⟨e1, by rw [if_pos e2]; exact ⟨e3, q⟩⟩
theorem h_miss {cs : List String} {sl : Option Nat} {b : Ss} {r : Hs} {kk : Bool} {c : String} {fs : List (String × A)} (e1 : (pg.er c).isSome = true) (e2 : (cs.any fun d => (pg.up c).contains d) = false)
    (q : wpH pg g xx r kk c fs D W σ h) : wpH pg g xx (.cons cs sl b r) kk c fs D W σ h := ⟨e1, by rw [if_neg (by rw [e2]; exact Bool.false_ne_true)]; exact q⟩
theorem q_aug {i : Nat} {a : Int} {e : E} (ei : σ[i]? = some (some (.int a))) (q : wpE pg g xx e σ h (fun y h1 => ∃ b, y = .int b ∧ D.nx (σ.set i (some (.int (a + b)))) h1) (fun b c fs h1 => W b c fs σ h1)) (hg : GMono g) : wpS pg g xx (.aug i .Add e) D W σ h := by
  refine ⟨.int a, ei, wpE_mono hg e (fun y h1 z => ?_) (fun _ _ _ _ z => z) q⟩
  obtain ⟨b, e1, e2⟩ := z
  exact ⟨a, b, rfl, e1, e2⟩
theorem q_par {is : List Nat} {as : Es} (q : wpEs pg g xx as σ h (fun xs h1 => xs.length = is.length ∧ D.nx ((is.zip xs).foldl (fun τ p => τ.set p.1 (some p.2)) σ) h1) (fun b c fs h1 => W b c fs σ h1)) : wpS pg g xx (.par is as) D W σ h := q
/-! sources -/
end
section
variable {h : Hh} {Q : QV} {R : Bool → Prop} {i j : Int} {n m : Nat} {xs ys : List A} {z w : PySem.Str} {x y v : A}
theorem b_addS (l : z.length + w.length ≤ sizeLine) (q : Q (.str (z ++ w)) h) : binW .Add (.str z) (.str w) h Q := ⟨l, q⟩
theorem b_addL (e1 : h[n]? = some (.lst xs)) (e2 : h[m]? = some (.lst ys)) (l : xs.length + ys.length ≤ sizeLine) (q : new h (.lst (xs ++ ys)) Q) : binW .Add (.ref n) (.ref m) h Q := ⟨xs, ys, e1, e2, l, q⟩
theorem b_addT (l : xs.length + ys.length ≤ sizeLine) (q : Q (.tup (xs ++ ys)) h) : binW .Add (.tup xs) (.tup ys) h Q := ⟨l, q⟩
theorem b_mulL (e1 : h[n]? = some (.lst xs)) (h1 : -(2 ^ 63) ≤ i) (h2 : i < 2 ^ 63) (l : xs.length * i.toNat ≤ sizeLine) (q : new h (.lst (List.replicate i.toNat xs).flatten) Q) : binW .Mult (.ref n) (.int i) h Q := ⟨xs, e1, h1, h2, l, q⟩
theorem b_mulT (h1 : xs ≠ []) (h2 : 2 ≤ i) (h3 : i ≤ 1000) (h4 : xs.length ≤ 1000) (q : Q (.tup (List.replicate i.toNat xs).flatten) h) : binW .Mult (.tup xs) (.int i) h Q := ⟨h1, h2, h3, h4, q⟩
theorem b_and (q : Q (.int (Builtin.bitAnd i j)) h) : binW .BitAnd (.int i) (.int j) h Q := q
theorem b_or (q : Q (.int (Builtin.bitOr i j)) h) : binW .BitOr (.int i) (.int j) h Q := q
theorem b_xor (q : Q (.int (Builtin.bitXor i j)) h) : binW .BitXor (.int i) (.int j) h Q := q
theorem c_eqS (q : R (decide (z = w))) : cmpW .Eq (.str z) (.str w) h R := q
theorem c_neS (q : R (!decide (z = w))) : cmpW .NotEq (.str z) (.str w) h R := q
theorem c_isN (q : R x.isN) : cmpW .Is x .non h R := q
theorem c_inN (q : R (!x.isN)) : cmpW .IsNot x .non h R := q
theorem c_isB {a b : Bool} (q : R (decide (a = b))) : cmpW .Is (.bl a) (.bl b) h R := q
theorem c_inB {a b : Bool} (q : R (!decide (a = b))) : cmpW .IsNot (.bl a) (.bl b) h R := q
theorem c_eqB {a b : Bool} (q : R (a == b)) : cmpW .Eq (.bl a) (.bl b) h R := q
theorem c_neB {a b : Bool} (q : R (!(a == b))) : cmpW .NotEq (.bl a) (.bl b) h R := q
theorem c_eqD {d e : PyData} (s : sc x y = none) (h1 : Da h x d) (h2 : Da h y e) (h3 : SeqAt.shaped d = true) (h4 : SeqAt.shaped e = true) (q : R (PyData.eqv d e)) : cmpW .Eq x y h R := by
  show eqW x y h R
  unfold eqW
  rw [s]
  exact .inr ⟨d, e, h1, h2, h3, h4, q⟩
theorem c_neD {d e : PyData} (s : sc x y = none) (h1 : Da h x d) (h2 : Da h y e) (h3 : SeqAt.shaped d = true) (h4 : SeqAt.shaped e = true) (q : R (!PyData.eqv d e)) : cmpW .NotEq x y h R := by
  show eqW x y h fun b => R (!b)
  unfold eqW
  rw [s]
  exact .inr ⟨d, e, h1, h2, h3, h4, q⟩
theorem ix_s {c : Nat} (l : z.length ≤ sizeLine) (e : L2.atI z.cps.toList i = some c) (q : Q (.str ⟨#[c]⟩) h) : idxW (.str z) (.int i) h Q := ⟨l, c, e, q⟩
/-- an item of a menu: what all items keep -/
theorem atI_any {α : Type} {l : List α} (h0 : 0 ≤ i) (h1 : i < l.length) : ∃ v, L2.atI l i = some v ∧ v ∈ l ∧ l[i.toNat]? = some v := by
  have z : i.toNat < l.length := by omega
  refine ⟨l[i.toNat], ?_, List.getElem_mem z, List.getElem?_eq_getElem z⟩
  unfold L2.atI L2.ixN
  rw [if_pos h0, if_pos h1]
  exact List.getElem?_eq_getElem z
theorem mn_l {P : A → Prop} (e : h[n]? = some (.lst xs)) (h0 : 0 ≤ i) (h1 : i < xs.length) (hP : ∀ x ∈ xs, P x) (q : ∀ v, P v → Q v h) : idxW (.ref n) (.int i) h Q := by
  obtain ⟨v, a, b, _⟩ := atI_any h0 h1
  exact ix_l e a (q v (hP v b))
theorem mn_t {P : A → Prop} (h0 : 0 ≤ i) (h1 : i < xs.length) (hP : ∀ x ∈ xs, P x) (q : ∀ v, P v → Q v h) : idxW (.tup xs) (.int i) h Q := by
  obtain ⟨v, a, b, _⟩ := atI_any h0 h1
  exact ix_t a (q v (hP v b))
/-! built-in methods -/
theorem m_app (e : h[n]? = some (.lst xs)) (l : xs.length < sizeLine) (q : ∀ h', Ke [n] h h' → h'.length = h.length → h'[n]? = some (.lst (xs ++ [v])) → Q .non h') : bmW .append (.ref n) [v] h Q := ⟨xs, e, l, sw (R := fun h' => Q .non h') e q⟩
theorem m_ext (e : h[n]? = some (.lst xs)) (e2 : h[m]? = some (.lst ys)) (l : xs.length + ys.length ≤ sizeLine) (q : ∀ h', Ke [n] h h' → h'.length = h.length → h'[n]? = some (.lst (xs ++ ys)) → Q .non h') : bmW .extend (.ref n) [.ref m] h Q := ⟨xs, ys, e, e2, l, sw (R := fun h' => Q .non h') e q⟩
theorem m_rev (e : h[n]? = some (.lst xs)) (q : ∀ h', Ke [n] h h' → h'.length = h.length → h'[n]? = some (.lst xs.reverse) → Q .non h') : bmW .reverse (.ref n) [] h Q := ⟨xs, e, sw (R := fun h' => Q .non h') e q⟩
theorem m_clr (e : h[n]? = some (.lst xs)) (q : ∀ h', Ke [n] h h' → h'.length = h.length → h'[n]? = some (.lst []) → Q .non h') : bmW .clear (.ref n) [] h Q := ⟨xs, e, sw (R := fun h' => Q .non h') e q⟩
theorem su_l' {t : Nat} {R : Hh → Prop} (e : h[n]? = some (.lst xs)) (a : L2.ixN xs.length i = some t) (q : ∀ h', Ke [n] h h' → h'.length = h.length → h'[n]? = some (.lst (xs.set t v)) → R h') : subW (.ref n) (.int i) v h R := su_l e a (sw e q)
theorem f_lstL' (e : h[n]? = some (.lst xs)) (q : new h (.lst xs) Q) : bltW .list [.ref n] h Q := ⟨xs, e, q⟩
theorem f_lstT' (q : new h (.lst xs) Q) : bltW .list [.tup xs] h Q := q
theorem f_lenS (l : z.length ≤ sizeLine) (q : Q (.int z.length) h) : bltW .len [.str z] h Q := ⟨l, q⟩
theorem f_sum {ns : List Int} (e : h[n]? = some (.lst (ns.map A.int))) (q : Q (.int ns.sum) h) : bltW .sum [.ref n] h Q := ⟨ns, e, q⟩
theorem f_any {bs : List Bool} (e : h[n]? = some (.lst (bs.map A.bl))) (q : Q (.bl (bs.any id)) h) : bltW .any [.ref n] h Q := ⟨bs, e, q⟩
theorem f_all {bs : List Bool} (e : h[n]? = some (.lst (bs.map A.bl))) (q : Q (.bl (bs.all id)) h) : bltW .all [.ref n] h Q := ⟨bs, e, q⟩
theorem f_intB {b : Bool} (q : Q (.int (if b then 1 else 0)) h) : bltW .int [.bl b] h Q := q
theorem f_strI (l : i.natAbs.log2 < 1920) (q : Q (.str (toString i)) h) : bltW .str [.int i] h Q := ⟨l, q⟩
theorem f_rep {d : PyData} (e : Da h x d) (h1 : d.showable = true) (h2 : d.depth ≤ 60) (h3 : d.shown.length ≤ sizeLine) (q : Q (.str d.shown) h) : bltW .repr [x] h Q := ⟨d, e, h1, h2, h3, q⟩
theorem sl_t {lo hi : Option Int} (q : Q (.tup (cutA xs lo hi)) h) : slcW (.tup xs) lo hi h Q := q
theorem sl_l {lo hi : Option Int} (e : h[n]? = some (.lst xs)) (q : new h (.lst (cutA xs lo hi)) Q) : slcW (.ref n) lo hi h Q := ⟨xs, e, q⟩
end
/-! choices -/
theorem dt {p A B : Prop} [Decidable p] (hp : p) (q : A) : if decide p = true then A else B := by rw [if_pos (decide_eq_true hp)]; exact q
theorem df {p A B : Prop} [Decidable p] (hp : ¬ p) (q : B) : if decide p = true then A else B := by rw [if_neg (fun y => hp (of_decide_eq_true y))]; exact q
theorem ndt {p A B : Prop} [Decidable p] (hp : ¬ p) (q : A) : if (!decide p) = true then A else B := by rw [if_pos (by simp [hp])]; exact q
theorem ndf {p A B : Prop} [Decidable p] (hp : p) (q : B) : if (!decide p) = true then A else B := by rw [if_neg (by simp [hp])]; exact q
theorem ndec_ite {p A B : Prop} [Decidable p] (h1 : ¬ p → A) (h2 : p → B) : if (!decide p) = true then A else B := by
  by_cases z : p
  · exact ndf z (h2 z)
  · exact ndt z (h1 z)
theorem it {A B : Prop} (q : A) : if true = true then A else B := by rw [if_pos rfl]; exact q
theorem if_ {A B : Prop} (q : B) : if false = true then A else B := by rw [if_neg Bool.false_ne_true]; exact q
theorem b_ite {b : Bool} {A B : Prop} (h1 : b = true → A) (h2 : b = false → B) : if b = true then A else B := by
  cases b
  · exact if_ (h2 rfl)
  · exact it (h1 rfl)
theorem nb_ite {b : Bool} {A B : Prop} (h1 : b = false → A) (h2 : b = true → B) : if (!b) = true then A else B := by
  cases b
  · exact it (h1 rfl)
  · exact if_ (h2 rfl)
end Z
/-! which kind of goal -/
namespace Z
section
variable {pg : Pg} {g : Fid → GQ} {xx : Xx} {σ : SA} {h : Hh} {Q : QV} {Y : XQ} {D : En} {W : XS} {k : Nat} {x y v : A} {as : List A}
theorem gE {e : E} (q : wpE pg g xx e σ h Q Y) : wpE pg g xx e σ h Q Y := q
theorem gEs {e : Es} {Q : QL} (q : wpEs pg g xx e σ h Q Y) : wpEs pg g xx e σ h Q Y := q
theorem gAnd {e : Es} (q : wpAnd pg g xx e σ h Q Y) : wpAnd pg g xx e σ h Q Y := q
theorem gOr {e : Es} (q : wpOr pg g xx e σ h Q Y) : wpOr pg g xx e σ h Q Y := q
theorem gSs {s : Ss} (q : wpSs pg g xx s D W σ h) : wpSs pg g xx s D W σ h := q
theorem gS {s : S} (q : wpS pg g xx s D W σ h) : wpS pg g xx s D W σ h := q
theorem gI {i : I} {R : Gd → List A → Hh → Prop} (q : wpI pg g xx i σ h R Y) : wpI pg g xx i σ h R Y := q
theorem gH {hs : Hs} {kk : Bool} {c : String} {fs : List (String × A)} (q : wpH pg g xx hs kk c fs D W σ h) : wpH pg g xx hs kk c fs D W σ h := q
theorem gBin {op : PySem.Operator} (q : binW op x y h Q) : binW op x y h Q := q
theorem gCmp {op : PySem.CmpOp} {R : Bool → Prop} (q : cmpW op x y h R) : cmpW op x y h R := q
theorem gBlt {f : Bf} (q : bltW f as h Q) : bltW f as h Q := q
theorem gBm {m : Bm} (q : bmW m x as h Q) : bmW m x as h Q := q
theorem gIx (q : idxW x y h Q) : idxW x y h Q := q
theorem gSl {lo hi : Option Int} (q : slcW x lo hi h Q) : slcW x lo hi h Q := q
theorem gSu {R : Hh → Prop} (q : subW x y v h R) : subW x y v h R := q
theorem gIf {p A B : Prop} [Decidable p] (q : if p then A else B) : if p then A else B := q
theorem gNew {o : O} (q : new h o Q) : new h o Q := q
theorem gEx {α : Sort _} {P : α → Prop} (q : ∃ x, P x) : ∃ x, P x := q
theorem gAn {A B : Prop} (q : A ∧ B) : A ∧ B := q
theorem gRn {as : List A} {S : Gd → List A → Prop} (q : rngW as S) : rngW as S := q
theorem gSr {S : Gd → List A → Prop} (q : srcW x h S) : srcW x h S := q
theorem gG {f : Fid} {X : XQ} (q : Γ pg k f as h Q X) : Γ pg k f as h Q X := q
theorem gWO {t : WE} {e : E} {R : Option Int → Hh → Prop} (q : wpO t e σ h R Y) : wpO t e σ h R Y := q
theorem gWC {t : WE} {e : E} {R : Bool → Hh → Prop} (q : wpC t e σ h R) : wpC t e σ h R := q
theorem gAs {t : Tg} {R : SA → Prop} (q : asgT t v h σ R) : asgT t v h σ R := q
theorem as_T {t : Tg} {R : SA → Prop} (q : tgW t v σ R) : asgT t v h σ R := .inl q
theorem as_L {ts : List Tg} {n : Nat} {xs : List A} {R : SA → Prop} (e : h[n]? = some (.lst xs)) (q : tgsW ts xs σ R) : asgT (.tp ts) (.ref n) h σ R := .inr ⟨ts, n, xs, rfl, rfl, e, q⟩
theorem gTg {t : Tg} {R : SA → Prop} (q : tgW t v σ R) : tgW t v σ R := q
theorem gTs {t : List Tg} {R : SA → Prop} (q : tgsW t as σ R) : tgsW t as σ R := q
theorem wo_no {t : WE} {R : Option Int → Hh → Prop} (q : R none h) : wpO t .no σ h R Y := q
theorem wo_cst {t : WE} {v : A} {R : Option Int → Hh → Prop} (q : t σ h (fun x h1 => ∃ i, x = .int i ∧ R (some i) h1) Y) : wpO t (.cst v) σ h R Y := q
theorem wo_var {t : WE} {v : Nat} {R : Option Int → Hh → Prop} (q : t σ h (fun x h1 => ∃ i, x = .int i ∧ R (some i) h1) Y) : wpO t (.var v) σ h R Y := q
theorem wo_glob {t : WE} {v : String} {R : Option Int → Hh → Prop} (q : t σ h (fun x h1 => ∃ i, x = .int i ∧ R (some i) h1) Y) : wpO t (.glob v) σ h R Y := q
theorem wo_bin {t : WE} {o : PySem.Operator} {a b : E} {R : Option Int → Hh → Prop} (q : t σ h (fun x h1 => ∃ i, x = .int i ∧ R (some i) h1) Y) : wpO t (.bin o a b) σ h R Y := q
theorem wo_neg {t : WE} {a : E} {R : Option Int → Hh → Prop} (q : t σ h (fun x h1 => ∃ i, x = .int i ∧ R (some i) h1) Y) : wpO t (.neg a) σ h R Y := q
theorem wo_call {t : WE} {f : String} {a : Es} {R : Option Int → Hh → Prop} (q : t σ h (fun x h1 => ∃ i, x = .int i ∧ R (some i) h1) Y) : wpO t (.call f a) σ h R Y := q
theorem wo_blt {t : WE} {f : Bf} {a : Es} {R : Option Int → Hh → Prop} (q : t σ h (fun x h1 => ∃ i, x = .int i ∧ R (some i) h1) Y) : wpO t (.blt f a) σ h R Y := q
theorem wo_idx {t : WE} {a b : E} {R : Option Int → Hh → Prop} (q : t σ h (fun x h1 => ∃ i, x = .int i ∧ R (some i) h1) Y) : wpO t (.idx a b) σ h R Y := q
theorem wo_fld {t : WE} {a : E} {f : String} {R : Option Int → Hh → Prop} (q : t σ h (fun x h1 => ∃ i, x = .int i ∧ R (some i) h1) Y) : wpO t (.fld a f) σ h R Y := q
theorem wc_no {t : WE} {R : Bool → Hh → Prop} (q : R true h) : wpC t .no σ h R := q
theorem wc_cmp {t : WE} {o : PySem.CmpOp} {a b : E} {R : Bool → Hh → Prop} (q : t σ h (fun x h1 => ∃ k, x = .bl k ∧ R k h1) (fun _ _ _ _ => False)) : wpC t (.cmp o a b) σ h R := q
theorem wc_ch2 {t : WE} {o p : PySem.CmpOp} {a b c : E} {R : Bool → Hh → Prop} (q : t σ h (fun x h1 => ∃ k, x = .bl k ∧ R k h1) (fun _ _ _ _ => False)) : wpC t (.ch2 o p a b c) σ h R := q
theorem wc_and {t : WE} {a : Es} {R : Bool → Hh → Prop} (q : t σ h (fun x h1 => ∃ k, x = .bl k ∧ R k h1) (fun _ _ _ _ => False)) : wpC t (.and a) σ h R := q
theorem wc_or {t : WE} {a : Es} {R : Bool → Hh → Prop} (q : t σ h (fun x h1 => ∃ k, x = .bl k ∧ R k h1) (fun _ _ _ _ => False)) : wpC t (.or a) σ h R := q
theorem wc_not {t : WE} {a : E} {R : Bool → Hh → Prop} (q : t σ h (fun x h1 => ∃ k, x = .bl k ∧ R k h1) (fun _ _ _ _ => False)) : wpC t (.not a) σ h R := q
theorem wc_call {t : WE} {f : String} {a : Es} {R : Bool → Hh → Prop} (q : t σ h (fun x h1 => ∃ k, x = .bl k ∧ R k h1) (fun _ _ _ _ => False)) : wpC t (.call f a) σ h R := q
theorem tg_nm {i : Nat} {R : SA → Prop} (q : R (σ.set i (some v))) : tgW (.nm i) v σ R := q
theorem tg_tp {ts : List Tg} {R : SA → Prop} (q : tgsW ts as σ R) : tgW (.tp ts) (.tup as) σ R := ⟨as, rfl, q⟩
theorem ts_nil {R : SA → Prop} (q : R σ) : tgsW [] [] σ R := ⟨rfl, q⟩
theorem ts_cons {t : Tg} {ts : List Tg} {R : SA → Prop} (q : tgW t v σ fun σ' => tgsW ts as σ' R) : tgsW (t :: ts) (v :: as) σ R := ⟨v, as, rfl, q⟩
theorem i_zip' {a b : E} {R : Gd → List A → Hh → Prop} (q : wpE pg g xx a σ h (fun x h1 => wpE pg g xx b σ h1 (fun y h2 => ∃ n m xs ys, x = .ref n ∧ y = .ref m ∧ h2[n]? = some (.lst xs) ∧ h2[m]? = some (.lst ys) ∧ R [(n, xs), (m, ys)] (zipA xs ys) h2) Y) Y) : wpI pg g xx (.zip a b) σ h R Y := q
end
end Z

/-! ### the pure side: loops, lists of numbers, data that repr and == take -/
namespace Z
open PySem L2
theorem divW {i j : Int} (h0 : 0 < j) (h1 : j < 2 ^ 64) : L2.CDivW i j := by
  refine ⟨h0, ?_⟩
  have : j.natAbs < 2 ^ 64 := by omega
  have := (Nat.log2_lt (by omega)).mpr this
  omega
theorem mulL {i j : Int} (h0 : -(2 ^ 64) < i) (h1 : i < 2 ^ 64) : L2.CMul i j ∨ L2.CMulW i j := .inl (.inl ⟨h0, h1⟩)
theorem mulR {i j : Int} (h0 : -(2 ^ 64) < j) (h1 : j < 2 ^ 64) : L2.CMul i j ∨ L2.CMulW i j := .inl (.inr ⟨h0, h1⟩)
theorem powC {i j : Int} (h0 : 0 ≤ j) (h1 : j ≤ 1000000) (h2 : i.natAbs < 2 ^ 64) : L2.CPow i j := ⟨h0, h1, h2⟩
theorem rngA_get {lo : Int} {n i : Nat} {x : A} (e : (rngA lo n)[i]? = some x) : i < n ∧ x = .int (lo + i) := by
  unfold rngA at e
  rw [List.getElem?_map] at e
  by_cases hi : i < n
  · rw [List.getElem?_range hi] at e
    cases e
    exact ⟨hi, rfl⟩
  · rw [List.getElem?_eq_none (by rw [List.length_range]; omega)] at e
    cases e
theorem rngA_len {lo : Int} {n : Nat} : (rngA lo n).length = n := by
  unfold rngA
  rw [List.length_map, List.length_range]
theorem map_get {α β : Type} {f : α → β} {l : List α} {i : Nat} {x : β} (e : (l.map f)[i]? = some x) : ∃ a, l[i]? = some a ∧ x = f a := by
  rw [List.getElem?_map] at e
  cases z : l[i]? with
  | none => rw [z] at e; cases e
  | some a => rw [z] at e; cases e; exact ⟨a, rfl, rfl⟩
theorem get_lt {α : Type} {l : List α} {i : Nat} {x : α} (e : l[i]? = some x) : i < l.length := (List.getElem?_eq_some_iff.mp e).1
theorem get_mem {α : Type} {l : List α} {i : Nat} {x : α} (e : l[i]? = some x) : x ∈ l := List.mem_of_getElem? e
theorem gd0 {h : Hh} : gdOk [] h := fun _ m => absurd m List.not_mem_nil
theorem gd1 {h : Hh} {n : Nat} {xs : List A} (e : h[n]? = some (.lst xs)) : gdOk [(n, xs)] h := fun p m => by
  rw [List.mem_singleton] at m
  subst m
  exact e
theorem gd2 {h : Hh} {n m : Nat} {xs ys : List A} (e : h[n]? = some (.lst xs)) (e2 : h[m]? = some (.lst ys)) : gdOk [(n, xs), (m, ys)] h := fun p q => by
  rcases List.mem_cons.mp q with z | z
  · subst z; exact e
  · rw [List.mem_singleton] at z; subst z; exact e2
/-- what is left to be shown -/
structure Ok (p : Prop) : Prop where
  ok : p
/-- a loop, by what holds ahead of each turn -/
theorem for_inv {pg : Pg} {k : Nat} {xx : Xx} {σ : SA} {h : Hh} {D : En} {W : XS} {G : Gd} {t : Tg} {b : Ss} {xs : List A} (Iv : Nat → SA → Hh → Prop) (h0 : Iv 0 σ h) (hG : ∀ i σ h, i ≤ xs.length → Iv i σ h → gdOk G h)
    (step : ∀ i x σ h, xs[i]? = some x → Iv i σ h → tgW t x σ fun σ2 => wpSs pg (Γ pg k) xx b ⟨fun σ h => Ok (Iv (i + 1) σ h), D.rt, D.nx, fun σ h => Ok (Iv (i + 1) σ h)⟩ W σ2 h) (done : ∀ σ h, Iv xs.length σ h → D.nx σ h) :
    forA G (fun x D' σ' h' => tgW t x σ' fun σ2 => wpSs pg (Γ pg k) xx b D' W σ2 h') xs D σ h :=
  forA_inv (st := fun x D' σ' h' => tgW t x σ' fun σ2 => wpSs pg (Γ pg k) xx b D' W σ2 h') (fun _ _ _ _ _ le w => tgW_mono t (fun _ z => wpSs_mono (Γ_mono pg k) b le (fun _ _ _ _ _ z => z) z) w) (fun i σ h => Ok (Iv i σ h)) ⟨h0⟩ (fun i σ h l w => hG i σ h l w.ok) (fun i x σ h e w => step i x σ h e w.ok) (fun σ h w => done σ h w.ok)
/-- the same, by the things that are left -/
theorem for_ind {pg : Pg} {k : Nat} {xx : Xx} {D : En} {W : XS} {G : Gd} {t : Tg} {b : Ss} (Iv : List A → SA → Hh → Prop) (hG : ∀ l σ h, Iv l σ h → gdOk G h)
    (step : ∀ x r σ h, Iv (x :: r) σ h → tgW t x σ fun σ2 => wpSs pg (Γ pg k) xx b ⟨fun σ h => Ok (Iv r σ h), D.rt, D.nx, fun σ h => Ok (Iv r σ h)⟩ W σ2 h) (done : ∀ σ h, Iv [] σ h → D.nx σ h) :
    ∀ (xs : List A) (σ : SA) (h : Hh), Iv xs σ h → forA G (fun x D' σ' h' => tgW t x σ' fun σ2 => wpSs pg (Γ pg k) xx b D' W σ2 h') xs D σ h
  | [], σ, h, w => ⟨hG _ _ _ w, done σ h w⟩
  | x :: r, σ, h, w => ⟨hG _ _ _ w, tgW_mono t (fun _ z => wpSs_mono (Γ_mono pg k) b (D := ⟨fun σ h => Ok (Iv r σ h), D.rt, D.nx, fun σ h => Ok (Iv r σ h)⟩) ⟨fun σ' h' z => for_ind Iv hG step done r σ' h' z.ok, fun _ _ z => z, fun _ _ z => z, fun σ' h' z => for_ind Iv hG step done r σ' h' z.ok⟩ (fun _ _ _ _ _ z => z) z) (step x r σ h w)⟩
/-- a comprehension's turn -/
abbrev lcSt (pg : Pg) (g : Fid → GQ) (xx : Xx) (σ : SA) (vs : List Nat) (tg : Tg) (c elt : E) : A → Hh → (Option A → Hh → Prop) → Prop := fun x h2 R => tgW tg x (wipeA σ vs) fun σ2 => wpC (wpE pg g xx c) c σ2 h2 (fun k h3 => if k = true then wpE pg g xx elt σ2 h3 (fun y h4 => R (some y) h4) (fun _ _ _ _ => False) else R none h3)
theorem wpC_mono2 {t : WE} {e : E} {σ : SA} {h : Hh} {Q Q' : Bool → Hh → Prop} (ht : ∀ Q Q' : QV, QLe Q Q' → t σ h Q (fun _ _ _ _ => False) → t σ h Q' (fun _ _ _ _ => False)) (q : ∀ k h, Q k h → Q' k h) (w : wpC t e σ h Q) : wpC t e σ h Q' := by
  unfold wpC at w ⊢
  split at w
  · exact q _ _ w
  · exact ht _ _ (fun _ _ z => z.imp fun k z => ⟨z.1, q _ _ z.2⟩) w
theorem lcSt_mono {pg : Pg} {k : Nat} {xx : Xx} {σ : SA} {vs : List Nat} {tg : Tg} {c elt : E} {x : A} {h : Hh} {R R' : Option A → Hh → Prop} (q : ∀ o h, R o h → R' o h) (w : lcSt pg (Γ pg k) xx σ vs tg c elt x h R) : lcSt pg (Γ pg k) xx σ vs tg c elt x h R' := by
  refine tgW_mono tg (fun τ z => ?_) w
  refine wpC_mono2 (fun Q Q' l z => wpE_mono (Γ_mono pg k) c l (fun _ _ _ _ z => z) z) (fun b h1 z => ?_) z
  cases b with
  | false => exact if_ (q _ _ (by simpa using z))
  | true => exact it (wpE_mono (Γ_mono pg k) elt (fun y h2 z => q _ _ z) (fun _ _ _ _ z => z) (by simpa using z))
/-- a comprehension: what stays (but S), what is known of the list behind each turn -/
theorem lc_inv {pg : Pg} {k : Nat} {xx : Xx} {σ : SA} {vs : List Nat} {tg : Tg} {c elt : E} {G : Gd} {Q : Hh → Prop} {xs : List A} {h0 : Hh} (S : List Nat) (P : Nat → List A → Hh → Prop) (hS : ∀ t ∈ S, t < h0.length) (hl : xs.length ≤ 2 ^ 20) (hG : ∀ h', Ke S h0 h' → gdOk G h')
    (p0 : ∀ h', Ke [] h0 h' → h'.length = h0.length + 1 → P 0 [] h')
    (step : ∀ i x acc h, xs[i]? = some x → acc.length ≤ i → P i acc h → Ke S h0 h → h0.length < h.length → h[h0.length]? = some (.lst acc) →
      lcSt pg (Γ pg k) xx σ vs tg c elt x h fun o h1 => Ok (Ke S h h1 ∧ match o with
        | none => P (i + 1) acc h1
        | some y => ∀ h2, Ke [h0.length] h1 h2 → h2.length = h1.length → P (i + 1) (acc ++ [y]) h2))
    (done : ∀ acc h, P xs.length acc h → Ke S h0 h → h0.length < h.length → h[h0.length]? = some (.lst acc) → acc.length ≤ xs.length → Q h) :
    lcA G h0.length (lcSt pg (Γ pg k) xx σ vs tg c elt) Q xs (h0 ++ [.lst []]) := by
  refine lcA_inv (st := lcSt pg (Γ pg k) xx σ vs tg c elt) (fun x h R R' q w => lcSt_mono q w) (fun i h => ∃ acc, acc.length ≤ i ∧ P i acc h ∧ Ke S h0 h ∧ h0.length < h.length ∧ h[h0.length]? = some (.lst acc)) ?_ ?_ ?_ ?_
  · exact ⟨[], Nat.le_refl _, p0 _ Ke.push (by rw [List.length_append]; rfl), Ke.push.up, by rw [List.length_append]; exact Nat.lt_succ_self _, hg_new⟩
  · rintro i h _ ⟨acc, _, _, w, _⟩
    exact hG h w
  · rintro i x h e ⟨acc, a1, a2, a3, a4, a5⟩
    refine lcSt_mono ?_ (step i x acc h e a1 a2 a3 a4 a5)
    rintro o h1 ⟨⟨k1, k2⟩⟩
    have nS : h0.length ∉ S := fun m => absurd (hS _ m) (Nat.lt_irrefl _)
    cases o with
    | none => exact ⟨acc, by omega, k2, a3.tr k1, Nat.lt_of_lt_of_le a4 k1.len, k1.get nS a5⟩
    | some y =>
      have e1 := k1.get nS a5
      have := get_lt e
      refine ⟨acc, e1, by rw [sizeLine_eq]; omega, acc ++ [y], by rw [List.length_append]; exact Nat.succ_le_succ a1, k2 _ Ke.set (List.length_set ..), ?_, ?_, hg_set e1⟩
      · exact Ke.step Ke.set (kc1 (.inr (Nat.le_refl _))) (a3.tr k1)
      · rw [List.length_set]
        exact Nat.lt_of_lt_of_le a4 k1.len
  · rintro h ⟨acc, a1, a2, a3, a4, a5⟩
    exact done acc h a2 a3 a4 a5 a1
/-- a comprehension that changes nothing: filter and map -/
theorem lc_fm {pg : Pg} {k : Nat} {xx : Xx} {σ : SA} {vs : List Nat} {tg : Tg} {c elt : E} {G : Gd} {Q : Hh → Prop} {xs : List A} {h0 : Hh} (F : A → Option A) (hl : xs.length ≤ 2 ^ 20) (hG : ∀ h', Ke [] h0 h' → gdOk G h')
    (step : ∀ (i : Nat) x h R, xs[i]? = some x → Ke [] h0 h → h0.length < h.length → R (F x) h → lcSt pg (Γ pg k) xx σ vs tg c elt x h R)
    (done : ∀ h, Ke [] h0 h → h0.length < h.length → h[h0.length]? = some (.lst (xs.filterMap F)) → Q h) :
    lcA G h0.length (lcSt pg (Γ pg k) xx σ vs tg c elt) Q xs (h0 ++ [.lst []]) := by
  refine lc_inv [] (fun i acc _ => acc = (xs.take i).filterMap F) kc0 hl hG (fun _ _ _ => rfl) (fun i x acc h e a1 a2 a3 a4 a5 => ?_) (fun acc h a1 a2 a3 a4 a5 => ?_)
  · refine step i x h _ e a3 a4 ⟨⟨Ke.refl, ?_⟩⟩
    have e1 : xs.take (i + 1) = xs.take i ++ [x] := by rw [List.take_add_one, e]; rfl
    cases z : F x with
    | none => show acc = _; rw [e1, List.filterMap_append, a2]; simp [z]
    | some y => intro h2 _ _; rw [e1, List.filterMap_append, a2]; simp [z]
  · rw [List.take_length] at a1
    exact done h a2 a3 (a1 ▸ a4)
theorem lc_map {pg : Pg} {k : Nat} {xx : Xx} {σ : SA} {vs : List Nat} {tg : Tg} {c elt : E} {G : Gd} {Q : Hh → Prop} {xs : List A} {h0 : Hh} (F : A → A) (hl : xs.length ≤ 2 ^ 20) (hG : ∀ h', Ke [] h0 h' → gdOk G h')
    (step : ∀ (i : Nat) x h R, xs[i]? = some x → Ke [] h0 h → h0.length < h.length → R (some (F x)) h → lcSt pg (Γ pg k) xx σ vs tg c elt x h R)
    (done : ∀ h, Ke [] h0 h → h0.length < h.length → h[h0.length]? = some (.lst (xs.map F)) → Q h) :
    lcA G h0.length (lcSt pg (Γ pg k) xx σ vs tg c elt) Q xs (h0 ++ [.lst []]) :=
  lc_fm (fun x => some (F x)) hl hG step (fun h a b e => done h a b (by rw [List.filterMap_eq_map'] at e; exact e))
/-- the same over things of a kind -/
theorem lc_fmG {α : Type} {g : α → A} {l : List α} {pg : Pg} {k : Nat} {xx : Xx} {σ : SA} {vs : List Nat} {tg : Tg} {c elt : E} {G : Gd} {Q : Hh → Prop} {h0 : Hh} (F : α → Option A) (hl : l.length ≤ 2 ^ 20) (hG : ∀ h', Ke [] h0 h' → gdOk G h')
    (step : ∀ a h R, a ∈ l → Ke [] h0 h → h0.length < h.length → R (F a) h → lcSt pg (Γ pg k) xx σ vs tg c elt (g a) h R)
    (done : ∀ h, Ke [] h0 h → h0.length < h.length → h[h0.length]? = some (.lst (l.filterMap F)) → Q h) :
    lcA G h0.length (lcSt pg (Γ pg k) xx σ vs tg c elt) Q (l.map g) (h0 ++ [.lst []]) := by
  refine lc_inv [] (fun i acc _ => acc = (l.take i).filterMap F) kc0 (by rw [List.length_map]; exact hl) hG (fun _ _ _ => rfl) (fun i x acc h e a1 a2 a3 a4 a5 => ?_) (fun acc h a1 a2 a3 a4 a5 => ?_)
  · obtain ⟨a, ea, rfl⟩ := map_get e
    refine step a h _ (get_mem ea) a3 a4 ⟨⟨Ke.refl, ?_⟩⟩
    have e1 : l.take (i + 1) = l.take i ++ [a] := by rw [List.take_add_one, ea]; rfl
    cases z : F a with
    | none => show acc = _; rw [e1, List.filterMap_append, a2]; simp [z]
    | some y => intro h2 _ _; rw [e1, List.filterMap_append, a2]; simp [z]
  · rw [List.length_map, List.take_length] at a1
    exact done h a2 a3 (a1 ▸ a4)
def rngI (lo : Int) (n : Nat) : List Int := (List.range n).map fun (i : Nat) => lo + (i : Int)
theorem rngA_eq {lo : Int} {n : Nat} : rngA lo n = (rngI lo n).map A.int := by
  unfold rngA rngI
  rw [List.map_map]
  rfl
theorem rngI_len {lo : Int} {n : Nat} : (rngI lo n).length = n := by
  unfold rngI
  rw [List.length_map, List.length_range]
theorem mem_rngI {lo a : Int} {n : Nat} : a ∈ rngI lo n ↔ lo ≤ a ∧ a < lo + n := by
  unfold rngI
  simp only [List.mem_map, List.mem_range]
  constructor
  · rintro ⟨i, h, rfl⟩; omega
  · rintro ⟨h1, h2⟩; exact ⟨(a - lo).toNat, by omega, by omega⟩
theorem rngI_pw {lo : Int} {n : Nat} : (rngI lo n).Pairwise (· < ·) := by
  unfold rngI
  rw [List.pairwise_map]
  exact List.pairwise_lt_range.imp fun h => by omega
theorem rngI_get {lo a : Int} {n i : Nat} (e : (rngI lo n)[i]? = some a) : i < n ∧ a = lo + i := by
  have := rngA_get (lo := lo) (n := n) (i := i) (x := .int a) (by rw [rngA_eq, List.getElem?_map, e]; rfl)
  exact ⟨this.1, by injection this.2⟩
/-- a filter of things in order, told by numbers -/
theorem fm_ints {l : List Int} {p : Int → Bool} {f : Int → Int} {F : Int → Option A} (hF : ∀ a ∈ l, F a = if p a = true then some (A.int (f a)) else none) : l.filterMap F = ((l.filter p).map f).map A.int := by
  induction l with
  | nil => rfl
  | cons a r ih =>
    have ih := ih fun x m => hF x (List.mem_cons_of_mem _ m)
    have ha := hF a List.mem_cons_self
    rw [List.filterMap_cons, List.filter_cons]
    by_cases z : p a = true
    · rw [ha, if_pos z, if_pos z, ih]; rfl
    · rw [ha, if_neg z, if_neg z, ih]
/-! ### lists of numbers -/
section
variable {h : Hh} {Q : QV} {R : Bool → Prop} {i j : Int} {n m : Nat} {ns ms : List Int}
theorem atI_ints (h0 : 0 ≤ i) (h1 : i < ns.length) : ∃ c, L2.atI (ns.map A.int) i = some (.int c) ∧ ns[i.toNat]? = some c := by
  obtain ⟨v, e1, _, e3⟩ := atI_any (l := ns.map A.int) h0 (by rw [List.length_map]; exact h1)
  obtain ⟨a, e4, rfl⟩ := map_get e3
  exact ⟨a, e1, e4⟩
theorem f_lenLI (e : h[n]? = some (.lst (ns.map A.int))) (q : Q (.int ns.length) h) : bltW .len [.ref n] h Q := f_lenL e (by rw [List.length_map]; exact q)
theorem ix_ints {c : Int} (e : h[n]? = some (.lst (ns.map A.int))) (h0 : 0 ≤ i) (e2 : ns[i.toNat]? = some c) (q : Q (.int c) h) : idxW (.ref n) (.int i) h Q := by
  have hl := get_lt e2
  obtain ⟨v, a, b⟩ := atI_ints (ns := ns) h0 (by omega)
  rw [e2] at b
  cases b
  exact ix_l e a q
theorem f_sortL (e : h[n]? = some (.lst (ns.map A.int))) (q : ∀ ms : List Int, ms.Perm ns → ms.Pairwise (· ≤ ·) → new h (.lst (ms.map A.int)) Q) : bltW .sorted [.ref n] h Q := .inl ⟨_, e, .inl ⟨ns, rfl, q⟩⟩
end
theorem eqv_ok {d : PyData} (h : d.canLay0 = true) : PyData.eqv d d = true := PySem.SeqAt.eqv_refl d h
end Z

/-! ### the pure side: data that repr and == take -/
namespace Z
open PySem L2
/-- code points that are signs -/
def Sg (x : PySem.Str) : Prop := ∀ c ∈ x.cps.toList, c < 0x110000
theorem sg_ok {x : PySem.Str} : PyData.strOk x = true ↔ Sg x := by
  unfold PyData.strOk Sg
  rw [Array.all_eq_true']
  simp
theorem sg_app {x y : PySem.Str} (a : Sg x) (b : Sg y) : Sg (x ++ y) := fun c m => by
  have e : (x ++ y).cps.toList = x.cps.toList ++ y.cps.toList := Array.toList_append
  rw [e] at m
  exact (List.mem_append.mp m).elim (a c) (b c)
theorem char_lt (c : Char) : c.toNat < 0x110000 := by
  have := c.valid
  rcases this with h | h
  · exact Nat.lt_trans h (by decide)
  · exact h.2
theorem sg_ofString (s : String) : Sg (PySem.Str.ofString s) := fun c m => by
  rw [PySem.Str.ofString_eq_toList] at m
  simp only [List.mem_map] at m
  obtain ⟨a, _, rfl⟩ := m
  exact char_lt a
theorem sg_reprChar {q c : Nat} (hq : q < 0x110000) (hc : c < 0x110000) : ∀ d ∈ Builtin.Str.reprChar q c, d < 0x110000 := by
  have hx : ∀ w, ∀ d ∈ List.replicate (w - ((Nat.toDigits 16 c).map Char.toNat).length) 48 ++ (Nat.toDigits 16 c).map Char.toNat, d < 0x110000 := by
    intro w d m
    rcases List.mem_append.mp m with z | z
    · rw [(List.mem_replicate.mp z).2]; decide
    · simp only [List.mem_map] at z
      obtain ⟨a, _, rfl⟩ := z
      exact char_lt a
  unfold Builtin.Str.reprChar
  intro d m
  simp only at m
  split at m
  · simp only [List.mem_cons, List.not_mem_nil, or_false] at m; omega
  · split at m
    · simp only [List.mem_cons, List.not_mem_nil, or_false] at m; omega
    · split at m
      · simp only [List.mem_cons, List.not_mem_nil, or_false] at m; omega
      · split at m
        · simp only [List.mem_cons, List.not_mem_nil, or_false] at m; omega
        · split at m
          · simp only [List.mem_cons, List.not_mem_nil, or_false] at m; omega
          · split at m
            · rcases List.mem_append.mp m with z | z
              · simp only [List.mem_cons, List.not_mem_nil, or_false] at z; omega
              · exact hx _ _ z
            · split at m
              · rcases List.mem_append.mp m with z | z
                · simp only [List.mem_cons, List.not_mem_nil, or_false] at z; omega
                · exact hx _ _ z
              · rcases List.mem_append.mp m with z | z
                · simp only [List.mem_cons, List.not_mem_nil, or_false] at z; omega
                · exact hx _ _ z
theorem sg_reprText {x : PySem.Str} (h : Sg x) : Sg (reprText x) := by
  have hq : reprQuote x < 0x110000 := by unfold reprQuote; split <;> decide
  have go : ∀ (l : List Nat) (acc : Array Nat), (∀ c ∈ l, c < 0x110000) → (∀ c ∈ acc.toList, c < 0x110000) → ∀ c ∈ (l.foldl (fun out c => out ++ (Builtin.Str.reprChar (reprQuote x) c).toArray) acc).toList, c < 0x110000 := by
    intro l
    induction l with
    | nil => intro acc _ h2; exact h2
    | cons a r ih =>
      intro acc h1 h2
      refine ih _ (fun c m => h1 c (List.mem_cons_of_mem _ m)) ?_
      intro c m
      rw [Array.toList_append] at m
      rcases List.mem_append.mp m with z | z
      · exact h2 c z
      · exact sg_reprChar hq (h1 a List.mem_cons_self) c z
  unfold reprText Sg
  intro c m
  simp only [Array.toList_push, ← Array.foldl_toList] at m
  rcases List.mem_append.mp m with z | z
  · refine go _ _ h ?_ c z
    intro c m
    simp only [List.mem_cons, List.not_mem_nil, or_false] at m
    omega
  · rw [List.mem_singleton] at z; omega
theorem sg_textFrom : ∀ (ts : List PySem.Str) (k : Nat) (acc : PySem.Str), Sg acc → (∀ t ∈ ts, Sg t) → Sg (textFrom k acc ts)
  | [], _, _, h, _ => h
  | t :: r, k, acc, h, hs => sg_textFrom r (k + 1) _ (sg_app (sg_app h (by split <;> exact sg_ofString _)) (hs t List.mem_cons_self)) fun u m => hs u (List.mem_cons_of_mem _ m)
theorem sg_join {s : PySem.Str} (hs : Sg s) : ∀ ts : List PySem.Str, (∀ t ∈ ts, Sg t) → Sg (PySem.Str.join s ts)
  | [], _ => fun c m => by cases m
  | [x], h => h x List.mem_cons_self
  | x :: y :: r, h => sg_app (sg_app (h x List.mem_cons_self) hs) (sg_join hs (y :: r) fun u m => h u (List.mem_cons_of_mem _ m))
/-- data of signs; how deep -/
structure Nc (d : PyData) (dep : Nat) : Prop where
  sh : d.showable = true
  dp : d.depth ≤ dep
  sv : d.leavesShort 60 = true
  sg : Sg d.shown
structure NcL (ds : List PyData) (dep : Nat) : Prop where
  sh : PyData.showableAll ds = true
  dp : PyData.depthAll ds ≤ dep
  sv : PyData.leavesShortAll 60 ds = true
  sg : ∀ t ∈ PyData.shownAll ds, Sg t
theorem nc_int {i : Int} {e : Nat} (h : i.natAbs < 10 ^ 50) : Nc (.int i) e := by
  refine ⟨?_, Nat.zero_le _, ?_, sg_ofString _⟩
  · simp only [PyData.showable, decide_eq_true_eq]
    have : i.natAbs.log2 ≤ (10 ^ 50).log2 := by
      rcases Nat.eq_zero_or_pos i.natAbs with z | z
      · rw [z]; decide
      · exact (Nat.le_log2 (by decide)).mpr (Nat.le_trans ((Nat.le_log2 (by omega)).mp (Nat.le_refl _)) (by omega))
    exact Nat.lt_of_le_of_lt this (by decide)
  · simp only [PyData.leavesShort, decide_eq_true_eq]
    have e : (Str.ofString (toString i)).length = (toString i).length := PySem.ofString_length _
    have z := int_text_length_le10 (a := i) (k := 50) (by decide) h
    simp only [PyData.shown]
    omega
theorem nc_non {e : Nat} : Nc .none e := ⟨rfl, Nat.zero_le _, rfl, sg_ofString _⟩
theorem nc_bl {b : Bool} {e : Nat} : Nc (.bool b) e := ⟨rfl, Nat.zero_le _, rfl, by cases b <;> exact sg_ofString _⟩
theorem nc_dct {e : Nat} : Nc (.dict []) (e + 1) := ⟨rfl, by simp [PyData.depth, PyData.depthKv], rfl, sg_app (sg_app (sg_ofString _) (sg_join (sg_ofString _) [] fun _ m => by cases m)) (sg_ofString _)⟩
theorem nc_str {z : PySem.Str} {e : Nat} (hz : Sg z) : Nc (.str z) e := by
  refine ⟨rfl, Nat.zero_le _, ?_, sg_reprText hz⟩
  simp only [PyData.leavesShort, List.all_eq_true, decide_eq_true_eq]
  exact fun c m => Nat.lt_of_lt_of_le (hz c m) (by decide)
theorem ncl_nil {e : Nat} : NcL [] e := ⟨rfl, Nat.zero_le _, rfl, fun _ m => by cases m⟩
theorem ncl_cons {d : PyData} {ds : List PyData} {e : Nat} (h : Nc d e) (t : NcL ds e) : NcL (d :: ds) e := by
  refine ⟨?_, ?_, ?_, ?_⟩
  · simp only [PyData.showableAll, h.sh, t.sh]; rfl
  · simp only [PyData.depthAll]; have := h.dp; have := t.dp; omega
  · simp only [PyData.leavesShortAll, h.sv, t.sv]; rfl
  · intro x m
    rcases List.mem_cons.mp m with z | z
    · rw [z]; exact h.sg
    · exact t.sg x z
theorem NcL.of {ds : List PyData} {e : Nat} (h : ∀ d ∈ ds, Nc d e) : NcL ds e := by
  induction ds with
  | nil => exact ncl_nil
  | cons d ds ih => exact ncl_cons (h d List.mem_cons_self) (ih fun x m => h x (List.mem_cons_of_mem _ m))
theorem NcL.mem {e : Nat} : ∀ {ds : List PyData}, NcL ds e → ∀ d ∈ ds, Nc d e
  | d :: ds, ⟨a, b, c, g⟩, x, m => by
    simp only [PyData.showableAll, PyData.depthAll, PyData.leavesShortAll, Bool.and_eq_true] at a b c
    rcases List.mem_cons.mp m with z | z
    · subst z
      exact ⟨a.1, by omega, c.1, g _ List.mem_cons_self⟩
    · exact NcL.mem (ds := ds) ⟨a.2, by omega, c.2, fun x z => g x (List.mem_cons_of_mem _ z)⟩ x z
theorem ncl_app {ds es : List PyData} {e : Nat} (h : NcL ds e) (t : NcL es e) : NcL (ds ++ es) e := .of fun d m => (List.mem_append.mp m).elim (h.mem d) (t.mem d)
theorem nc_list {ds : List PyData} {e : Nat} (t : NcL ds e) : Nc (.list ds) (e + 1) := by
  refine ⟨?_, ?_, ?_, ?_⟩
  · simpa only [PyData.showable] using t.sh
  · simp only [PyData.depth]; have := t.dp; omega
  · simpa only [PyData.leavesShort] using t.sv
  · exact sg_app (sg_textFrom _ _ _ (sg_ofString _) t.sg) (sg_ofString _)
theorem nc_tup {ds : List PyData} {e : Nat} (t : NcL ds e) : Nc (.tuple ds) (e + 1) := by
  refine ⟨?_, ?_, ?_, ?_⟩
  · simpa only [PyData.showable] using t.sh
  · simp only [PyData.depth]; have := t.dp; omega
  · simpa only [PyData.leavesShort] using t.sv
  · exact sg_app (sg_app (sg_ofString _) (sg_join (sg_ofString _) _ t.sg)) (by split <;> exact sg_ofString _)
theorem Nc.mono {d : PyData} {e e' : Nat} (h : Nc d e) (he : e ≤ e') : Nc d e' := ⟨h.sh, Nat.le_trans h.dp he, h.sv, h.sg⟩
theorem ncl_ints {ns : List Int} {e : Nat} (h : ∀ n ∈ ns, n.natAbs < 10 ^ 50) : NcL (ns.map PyData.int) e := .of fun d m => by
  obtain ⟨n, hn, rfl⟩ := List.mem_map.mp m
  exact nc_int (h n hn)
theorem bulk_ints : ∀ ns : List Int, PyData.bulkAll (ns.map PyData.int) = ns.length
  | [] => rfl
  | n :: ns => by simp only [List.map_cons, PyData.bulkAll, PyData.bulk, bulk_ints ns, List.length_cons]; omega
theorem bulk_app : ∀ ds es : List PyData, PyData.bulkAll (ds ++ es) = PyData.bulkAll ds + PyData.bulkAll es
  | [], _ => by simp [PyData.bulkAll]
  | d :: ds, es => by simp only [List.cons_append, PyData.bulkAll, bulk_app ds es]; omega
/-! == -/
structure Ly (d : PyData) (dep : Nat) : Prop where
  lay : d.canLay0 = true
  dp : d.depth ≤ dep
structure LyL (ds : List PyData) (dep : Nat) : Prop where
  lay : PyData.canLayAll0 ds = true
  dp : PyData.depthAll ds ≤ dep
theorem ly_non {e : Nat} : Ly .none e := ⟨rfl, Nat.zero_le _⟩
theorem ly_bl {b : Bool} {e : Nat} : Ly (.bool b) e := ⟨rfl, Nat.zero_le _⟩
theorem ly_int {i : Int} {e : Nat} : Ly (.int i) e := ⟨rfl, Nat.zero_le _⟩
theorem ly_str {z : PySem.Str} {e : Nat} (h : Sg z) : Ly (.str z) e := ⟨sg_ok.mpr h, Nat.zero_le _⟩
theorem lyl_nil {e : Nat} : LyL [] e := ⟨rfl, Nat.zero_le _⟩
theorem lyl_cons {d : PyData} {ds : List PyData} {e : Nat} (h : Ly d e) (t : LyL ds e) : LyL (d :: ds) e := ⟨by simp only [PyData.canLayAll0, h.lay, t.lay]; rfl, by simp only [PyData.depthAll]; have := h.dp; have := t.dp; omega⟩
theorem ly_list {ds : List PyData} {e : Nat} (t : LyL ds e) : Ly (.list ds) (e + 1) := ⟨by simpa only [PyData.canLay0] using t.lay, by simp only [PyData.depth]; have := t.dp; omega⟩
theorem ly_tup {ds : List PyData} {e : Nat} (t : LyL ds e) : Ly (.tuple ds) (e + 1) := ⟨by simpa only [PyData.canLay0] using t.lay, by simp only [PyData.depth]; have := t.dp; omega⟩
theorem lyl_of {ds : List PyData} {e : Nat} (h : ∀ d ∈ ds, Ly d e) : LyL ds e := by
  induction ds with
  | nil => exact lyl_nil
  | cons d ds ih => exact lyl_cons (h d List.mem_cons_self) (ih fun x m => h x (List.mem_cons_of_mem _ m))
theorem lyl_ints {ns : List Int} {e : Nat} : LyL (ns.map PyData.int) e := lyl_of fun d m => by
  obtain ⟨n, _, rfl⟩ := List.mem_map.mp m
  exact ly_int
theorem Ly.shaped {d : PyData} (h : Ly d 64) : SeqAt.shaped d = true := by
  simp only [SeqAt.shaped, h.lay, Bool.true_and, decide_eq_true_eq]
  exact h.dp
theorem Ly.mono {d : PyData} {e e' : Nat} (h : Ly d e) (he : e ≤ e') : Ly d e' := ⟨h.lay, Nat.le_trans h.dp he⟩
section
variable {S T : List Nat} {h : Hh} {Q : QV} {R : Bool → Prop} {i j : Int} {n m : Nat} {ns ms : List Int} {x y : A} {d e : PyData}
theorem f_repN (w : Da h x d) (c : Nc d 60) (b : d.bulk ≤ 2 ^ 17) (q : Q (.str d.shown) h) : bltW .repr [x] h Q := by
  refine f_rep w c.sh c.dp ?_ q
  have z := PyData.shown_le_bulk 60 (by decide) d c.sv
  rw [sizeLine_eq]
  omega
theorem c_eqN (s : sc x y = none) (w : Da h x d) (u : Da h y e) (l : Ly d 64) (l2 : Ly e 64) (q : R (PyData.eqv d e)) : cmpW .Eq x y h R := c_eqD s w u l.shaped l2.shaped q
theorem c_neN (s : sc x y = none) (w : Da h x d) (u : Da h y e) (l : Ly d 64) (l2 : Ly e 64) (q : R (!PyData.eqv d e)) : cmpW .NotEq x y h R := c_neD s w u l.shaped l2.shaped q
theorem c_inN' {ys : List A} {ds : List PyData} (e : h[n]? = some (.lst ys)) (w : Da h x d) (u : DaL h ys ds) (l : Ly d 64) (l2 : LyL ds 63) (q : R (ds.any fun e => PyData.eqv e d)) : cmpW .In x (.ref n) h R := by
  show inW x (.ref n) h R
  unfold inW
  simp only [e]
  exact ⟨d, ds, w, u, l.shaped, (ly_list l2).shaped, q⟩
theorem c_niN' {ys : List A} {ds : List PyData} (e : h[n]? = some (.lst ys)) (w : Da h x d) (u : DaL h ys ds) (l : Ly d 64) (l2 : LyL ds 63) (q : R (!(ds.any fun e => PyData.eqv e d))) : cmpW .NotIn x (.ref n) h R := by
  show inW x (.ref n) h fun b => R (!b)
  unfold inW
  simp only [e]
  exact ⟨d, ds, w, u, l.shaped, (ly_list l2).shaped, q⟩
theorem DaL.ints : ∀ ns : List Int, DaL h (ns.map A.int) (ns.map PyData.int)
  | [] => .nil
  | n :: ns => .cons (.int n) (DaL.ints ns)
theorem any_int : (ns.map PyData.int).any (fun e => PyData.eqv e (.int i)) = decide (i ∈ ns) := by
  induction ns with
  | nil => rfl
  | cons a r ih =>
    simp only [List.map_cons, List.any_cons, ih, List.mem_cons, PyData.eqv]
    by_cases z : a = i
    · subst z; simp
    · have z2 : ¬ i = a := fun y => z y.symm
      have z3 : (a == i) = false := by simpa using z
      simp [z2, z3]
theorem c_inI (e : h[n]? = some (.lst (ns.map A.int))) (q : R (decide (i ∈ ns))) : cmpW .In (.int i) (.ref n) h R := c_inN' e (.int i) (DaL.ints ns) ly_int lyl_ints (by rw [any_int]; exact q)
theorem c_niI (e : h[n]? = some (.lst (ns.map A.int))) (q : R (!decide (i ∈ ns))) : cmpW .NotIn (.int i) (.ref n) h R := c_niN' e (.int i) (DaL.ints ns) ly_int lyl_ints (by rw [any_int]; exact q)
theorem eqvAll_ints : ∀ ns ms : List Int, PyData.eqvAll (ns.map PyData.int) (ms.map PyData.int) = decide (ns = ms)
  | [], [] => rfl
  | [], _ :: _ => rfl
  | _ :: _, [] => rfl
  | a :: r, b :: t => by
    simp only [List.map_cons, PyData.eqvAll, PyData.eqv, eqvAll_ints r t, List.cons.injEq]
    by_cases z : a = b
    · subst z; simp
    · have z3 : (a == b) = false := by simpa using z
      simp [z, z3]
theorem c_eqI (e1 : h[n]? = some (.lst (ns.map A.int))) (e2 : h[m]? = some (.lst (ms.map A.int))) (q : R (decide (ns = ms))) : cmpW .Eq (.ref n) (.ref m) h R :=
  c_eqN rfl (.lst e1 (DaL.ints ns)) (.lst e2 (DaL.ints ms)) (ly_list lyl_ints) (ly_list lyl_ints) (by show R (PyData.eqvAll _ _); rw [eqvAll_ints]; exact q)
theorem c_neI (e1 : h[n]? = some (.lst (ns.map A.int))) (e2 : h[m]? = some (.lst (ms.map A.int))) (q : R (!decide (ns = ms))) : cmpW .NotEq (.ref n) (.ref m) h R :=
  c_neN rfl (.lst e1 (DaL.ints ns)) (.lst e2 (DaL.ints ms)) (ly_list lyl_ints) (ly_list lyl_ints) (by show R (!PyData.eqvAll _ _); rw [eqvAll_ints]; exact q)
/-- two alike -/
theorem c_eqT (s : sc x y = none) (w : Da h x d) (u : Da h y d) (l : Ly d 64) (q : R true) : cmpW .Eq x y h R := c_eqN s w u l l (by rw [eqv_ok l.lay]; exact q)
theorem c_neT (s : sc x y = none) (w : Da h x d) (u : Da h y d) (l : Ly d 64) (q : R false) : cmpW .NotEq x y h R := c_neN s w u l l (by rw [eqv_ok l.lay]; exact q)
/-- what kind a datum is of -/
def kdD : PyData → String
  | .none => "NoneType" | .bool _ => "bool" | .int _ => "int" | .str _ => "str" | .list _ => "list" | .tuple _ => "tuple" | .dict _ => "dict"
theorem Dn.kind (w : Dn S h x d) : kindA h x = some (kdD d) := by
  cases w with
  | lst _ e _ => exact kd_ref e
  | dct _ e _ => exact kd_dK e
  | _ => rfl
end
end Z
namespace Z
open PySem L2
/-- a comprehension of draws -/
theorem lc_draw {pg : Pg} {k : Nat} {xx : Xx} {σ : SA} {vs : List Nat} {tg : Tg} {c elt : E} {G : Gd} {Q : Hh → Prop} {xs : List A} {h0 : Hh} {n : Nat} (P : Nat → A → Prop) (hb : Bx h0 n) (hl : xs.length ≤ 2 ^ 20) (hG : ∀ h', Ke [n] h0 h' → gdOk G h')
    (step : ∀ (i : Nat) x h, xs[i]? = some x → Ke [n] h0 h → h0.length < h.length → Bx h n → lcSt pg (Γ pg k) xx σ vs tg c elt x h fun o h1 => Ok (∃ y, o = some y ∧ P i y ∧ Ke [n] h h1 ∧ Bx h1 n))
    (done : ∀ (acc : List A) h, acc.length = xs.length → (∀ (i : Nat) y, acc[i]? = some y → P i y) → Ke [n] h0 h → h0.length < h.length → Bx h n → h[h0.length]? = some (.lst acc) → Q h) :
    lcA G h0.length (lcSt pg (Γ pg k) xx σ vs tg c elt) Q xs (h0 ++ [.lst []]) := by
  have hn := hb.lt
  refine lc_inv [n] (fun i acc h => acc.length = i ∧ (∀ (i : Nat) y, acc[i]? = some y → P i y) ∧ Bx h n) (kc1 hn) hl hG (fun h' k _ => ⟨rfl, (fun i y e => by simp at e), Bx.ke k nm0 hb⟩) ?_ ?_
  · intro i x acc h e a1 a2 a3 a4 a5
    refine lcSt_mono ?_ (step i x h e a3 a4 a2.2.2)
    rintro o h1 ⟨⟨y, rfl, b1, b2, b3⟩⟩
    refine Ok.mk ⟨b2, fun h2 k2 l2 => ⟨by rw [List.length_append, a2.1]; rfl, ?_, Bx.ke k2 (nm1 (by omega)) b3⟩⟩
    intro j z ez
    by_cases hj : j < acc.length
    · rw [List.getElem?_append_left hj] at ez
      exact a2.2.1 j z ez
    · rw [List.getElem?_append_right (by omega)] at ez
      have := get_lt ez
      simp only [List.length_cons, List.length_nil] at this
      have e0 : j - acc.length = 0 := by omega
      rw [e0] at ez
      cases ez
      have : j = i := by have := a2.1; omega
      rw [this]
      exact b1
  · intro acc h a1 a2 a3 a4 _
    exact done acc h a1.1 a1.2.1 a2 a3 a1.2.2 a4
theorem all_get {α : Type} {P : α → Prop} {l : List α} (h : ∀ (i : Nat) y, l[i]? = some y → P y) : ∀ y ∈ l, P y := fun y m => by
  obtain ⟨i, e⟩ := List.mem_iff_getElem?.mp m
  exact h i y e
/-- values that are numbers -/
theorem ints_of {P : Int → Prop} : ∀ {l : List A}, (∀ v ∈ l, ∃ r, v = .int r ∧ P r) → ∃ ns : List Int, l = ns.map A.int ∧ ∀ r ∈ ns, P r
  | [], _ => ⟨[], rfl, fun _ m => by cases m⟩
  | x :: r, h => by
    obtain ⟨a, rfl, pa⟩ := h x List.mem_cons_self
    obtain ⟨ns, rfl, pn⟩ := ints_of (l := r) fun v m => h v (List.mem_cons_of_mem _ m)
    exact ⟨a :: ns, rfl, fun z m => (List.mem_cons.mp m).elim (fun e => e ▸ pa) (pn z)⟩
theorem strs_of {P : PySem.Str → Prop} : ∀ {l : List A}, (∀ v ∈ l, ∃ r, v = .str r ∧ P r) → ∃ ns : List PySem.Str, l = ns.map A.str ∧ ∀ r ∈ ns, P r
  | [], _ => ⟨[], rfl, fun _ m => by cases m⟩
  | x :: r, h => by
    obtain ⟨a, rfl, pa⟩ := h x List.mem_cons_self
    obtain ⟨ns, rfl, pn⟩ := strs_of (l := r) fun v m => h v (List.mem_cons_of_mem _ m)
    exact ⟨a :: ns, rfl, fun z m => (List.mem_cons.mp m).elim (fun e => e ▸ pa) (pn z)⟩
theorem sort_lt {ms : List Int} (h1 : ms.Pairwise (· ≤ ·)) (h2 : ms.Nodup) : ms.Pairwise (· < ·) := by
  refine (h1.and h2).imp ?_
  intro a b ⟨x, y⟩
  omega
end Z
namespace Z
theorem nodup_snoc {α : Type} {l : List α} {a : α} (h : l.Nodup) (n : a ∉ l) : (l ++ [a]).Nodup := by
  rw [List.nodup_append]
  refine ⟨h, List.nodup_cons.mpr ⟨List.not_mem_nil, List.nodup_nil⟩, fun x hx y hy e => ?_⟩
  rw [List.mem_singleton] at hy
  subst hy
  subst e
  exact n hx
theorem mem_snoc {α : Type} {P : α → Prop} {l : List α} {a : α} (h : ∀ x ∈ l, P x) (ha : P a) : ∀ x ∈ l ++ [a], P x := fun x m => (List.mem_append.mp m).elim (h x) fun z => (List.mem_singleton.mp z) ▸ ha
theorem len_snoc {α : Type} {l : List α} {a : α} : (l ++ [a]).length = l.length + 1 := by rw [List.length_append]; rfl
theorem map_snoc {α β : Type} {f : α → β} {l : List α} {a : α} : l.map f ++ [f a] = (l ++ [a]).map f := by rw [List.map_append]; rfl
theorem take_snoc {α : Type} {l : List α} {a : α} {i : Nat} (e : l[i]? = some a) : l.take (i + 1) = l.take i ++ [a] := by rw [List.take_add_one, e]; rfl
end Z
namespace Z
theorem bt {b : Bool} {A B : Prop} (e : b = true) (q : A) : if b = true then A else B := by rw [if_pos e]; exact q
theorem bf {b : Bool} {A B : Prop} (e : b = false) (q : B) : if b = true then A else B := by rw [if_neg (by rw [e]; exact Bool.false_ne_true)]; exact q
theorem nbt {b : Bool} {A B : Prop} (e : b = false) (q : A) : if (!b) = true then A else B := by rw [if_pos (by rw [e]; rfl)]; exact q
theorem nbf {b : Bool} {A B : Prop} (e : b = true) (q : B) : if (!b) = true then A else B := by rw [if_neg (by rw [e]; exact Bool.false_ne_true)]; exact q
end Z
namespace Z
def isiW (pg : Pg) (cs : List String) (x : A) (h : Hh) (Q : QV) : Prop := ∃ k, kindA h x = some k ∧ Q (.bl (cs.any (isB pg k))) h
section
variable {pg : Pg} {g : Fid → GQ} {xx : Xx} {σ : SA} {h : Hh} {Q : QV} {Y : XQ} {x : A} {cs : List String}
theorem r_isi' {a : E} (c : cs.all pg.cn = true) (q : wpE pg g xx a σ h (fun x h1 => isiW pg cs x h1 Q) Y) : wpE pg g xx (.isi a cs) σ h Q Y := ⟨c, q⟩
theorem is_T {kk : String} (e : kindA h x = some kk) (b : cs.any (isB pg kk) = true) (q : Q (.bl true) h) : isiW pg cs x h Q := ⟨kk, e, b ▸ q⟩
theorem is_F {kk : String} (e : kindA h x = some kk) (b : cs.any (isB pg kk) = false) (q : Q (.bl false) h) : isiW pg cs x h Q := ⟨kk, e, b ▸ q⟩
theorem gIs (q : isiW pg cs x h Q) : isiW pg cs x h Q := q
end
end Z
namespace Z
/-- a list or a tuple -/
inductive Sq (h : Hh) : A → List A → Prop
  | lst {p : Nat} {xs : List A} (e : h[p]? = some (.lst xs)) : Sq h (.ref p) xs
  | tup {xs : List A} : Sq h (.tup xs) xs
section
variable {pg : Pg} {h : Hh} {Q : QV} {v : A} {xs : List A}
theorem sr_sq {R : Gd → List A → Prop} (s : Sq h v xs) (q : ∀ G, (∀ S h', Ke S h h' → (∀ p, v = .ref p → p ∉ S) → gdOk G h') → R G xs) : srcW v h R := by
  cases s with
  | lst e => exact sr_ref e (q _ fun S h' k c => gd1 (k.get (c _ rfl) e))
  | tup => exact sr_tup (q _ fun _ _ _ _ => gd0)
theorem is_sq {cs : List String} (s : Sq h v xs) (b1 : cs.any (isB pg "list") = true) (b2 : cs.any (isB pg "tuple") = true) (q : Q (.bl true) h) : isiW pg cs v h Q := by
  cases s with
  | lst e => exact is_T (kd_ref e) b1 q
  | tup => exact is_T rfl b2 q
theorem f_lenSq (s : Sq h v xs) (q : Q (.int xs.length) h) : bltW .len [v] h Q := by
  cases s with
  | lst e => exact f_lenL e q
  | tup => exact f_lenT q
theorem Sq.ke {S : List Nat} {h' : Hh} (k : Ke S h h') (c : ∀ p, v = .ref p → p ∉ S) (s : Sq h v xs) : Sq h' v xs := by
  cases s with
  | lst e => exact .lst (k.get (c _ rfl) e)
  | tup => exact .tup
end
end Z
namespace Z
theorem cut_to {α : Type} {xs : List α} {hi : Int} (h : 0 ≤ hi) : cutA xs none (some hi) = xs.take hi.toNat := by
  unfold cutA
  show List.take ((if hi < 0 then (hi + (xs.length : Int)).toNat else min hi.toNat xs.length) - 0) (List.drop 0 xs) = _
  rw [if_neg (by omega), List.drop_zero, Nat.sub_zero, ← List.take_take, List.take_length]
theorem cut_from {α : Type} {xs : List α} {lo : Int} (h : 0 ≤ lo) : cutA xs (some lo) none = xs.drop lo.toNat := by
  unfold cutA
  show List.take (xs.length - (if lo < 0 then (lo + (xs.length : Int)).toNat else min lo.toNat xs.length)) (List.drop (if lo < 0 then (lo + (xs.length : Int)).toNat else min lo.toNat xs.length) xs) = _
  rw [if_neg (by omega)]
  by_cases z : lo.toNat ≤ xs.length
  · rw [Nat.min_eq_left z, List.take_of_length_le (by rw [List.length_drop]; omega)]
  · rw [Nat.min_eq_right (by omega), List.drop_length, List.drop_of_length_le (by omega), List.take_nil]
theorem cut_mid {α : Type} {xs : List α} {lo hi : Int} (h : 0 ≤ lo) (h2 : 0 ≤ hi) : cutA xs (some lo) (some hi) = (xs.take hi.toNat).drop lo.toNat := by
  unfold cutA
  show List.take ((if hi < 0 then (hi + (xs.length : Int)).toNat else min hi.toNat xs.length) - (if lo < 0 then (lo + (xs.length : Int)).toNat else min lo.toNat xs.length)) (List.drop (if lo < 0 then (lo + (xs.length : Int)).toNat else min lo.toNat xs.length) xs) = _
  rw [if_neg (by omega), if_neg (by omega)]
  by_cases z : lo.toNat ≤ xs.length
  · rw [Nat.min_eq_left z, ← List.drop_take]
    congr 1
    rw [← List.take_take, List.take_length]
  · rw [Nat.min_eq_right (show xs.length ≤ lo.toNat by omega), List.drop_length, List.drop_of_length_le (by rw [List.length_take]; omega), List.take_nil]
theorem cut_neg {α : Type} {xs : List α} {k : Nat} (h : 0 < k) : cutA xs none (some (-(k : Int))) = xs.take (xs.length - k) := by
  unfold cutA
  show List.take ((if -(k : Int) < 0 then (-(k : Int) + (xs.length : Int)).toNat else min (-(k : Int)).toNat xs.length) - 0) (List.drop 0 xs) = _
  rw [if_pos (by omega), List.drop_zero, Nat.sub_zero]
  congr 1
  omega
end Z
namespace Z
/-- rising rows of the same numbers -/
theorem lt_ext : ∀ {a b : List Int}, a.Pairwise (· < ·) → b.Pairwise (· < ·) → (∀ x, x ∈ a ↔ x ∈ b) → a = b
  | [], [], _, _, _ => rfl
  | [], y :: _, _, _, h => absurd ((h y).mpr List.mem_cons_self) List.not_mem_nil
  | x :: _, [], _, _, h => absurd ((h x).mp List.mem_cons_self) List.not_mem_nil
  | x :: r, y :: s, h1, h2, h => by
    rw [List.pairwise_cons] at h1 h2
    have e : x = y := by
      rcases List.mem_cons.mp ((h x).mp List.mem_cons_self) with z | z
      · exact z
      · rcases List.mem_cons.mp ((h y).mpr List.mem_cons_self) with w | w
        · exact w.symm
        · have := h2.1 x z; have := h1.1 y w; omega
    subst e
    have t : r = s := lt_ext h1.2 h2.2 fun z => by
      have hz := h z
      rw [List.mem_cons, List.mem_cons] at hz
      constructor
      · intro m
        rcases hz.mp (.inr m) with w | w
        · have := h1.1 z m; omega
        · exact w
      · intro m
        rcases hz.mpr (.inr m) with w | w
        · have := h2.1 z m; omega
        · exact w
    rw [t]
theorem flat_congr {α β : Type} {l : List α} {f g : α → List β} (h : ∀ a ∈ l, f a = g a) : l.flatMap f = l.flatMap g := by
  rw [List.flatMap_def, List.flatMap_def, List.map_congr_left h]
end Z
namespace Z
open PySem L2
mutual
theorem Da.ke {h h' : Hh} (k : Ke [] h h') : ∀ {v : A} {d : PyData}, Da h v d → Da h' v d
  | _, _, .non => .non
  | _, _, .bl b => .bl b
  | _, _, .int i => .int i
  | _, _, .str z => .str z
  | _, _, .tup t => .tup (DaL.ke k t)
  | _, _, .fro t => .fro (DaL.ke k t)
  | _, _, .kt t => .kt (DaL.ke k t)
  | _, _, .lst e t => .lst (k.get nm0 e) (DaL.ke k t)
  | _, _, .dct e t => .dct (k.get nm0 e) (DaL.ke k t)
theorem DaL.ke {h h' : Hh} (k : Ke [] h h') : ∀ {v : List A} {d : List PyData}, DaL h v d → DaL h' v d
  | _, _, .nil => .nil
  | _, _, .cons a b => .cons (Da.ke k a) (DaL.ke k b)
end
theorem DaL.get {h : Hh} : ∀ {xs : List A} {ds : List PyData} {i : Nat} {x : A}, DaL h xs ds → xs[i]? = some x → ∃ d, ds[i]? = some d ∧ Da h x d
  | _, _, 0, _, .cons a _, e => by cases e; exact ⟨_, rfl, a⟩
  | _, _, i + 1, _, .cons _ r, e => by
    rw [List.getElem?_cons_succ] at e ⊢
    exact r.get e
theorem DaL.app {h : Hh} : ∀ {xs ys : List A} {ds es : List PyData}, DaL h xs ds → DaL h ys es → DaL h (xs ++ ys) (ds ++ es)
  | _, _, _, _, .nil, w => w
  | _, _, _, _, .cons a r, w => .cons a (r.app w)
theorem enA_get' {xs : List A} {i : Nat} {x : A} (e : (enA xs)[i]? = some x) : ∃ y, xs[i]? = some y ∧ x = .tup [.int (i : Nat), y] := by
  unfold enA at e
  rw [List.getElem?_map, List.getElem?_zipIdx] at e
  cases z : xs[i]? with
  | none => rw [z] at e; cases e
  | some y =>
    rw [z] at e
    simp at e
    exact ⟨y, rfl, e.symm⟩
theorem enA_length {xs : List A} : (enA xs).length = xs.length := by
  unfold enA
  rw [List.length_map, List.length_zipIdx]
end Z
namespace Z
theorem sr_kt {h : Hh} {S : Gd → List A → Prop} {xs : List A} (q : S [] xs) : srcW (.kt xs) h S := q
theorem f_lenK {h : Hh} {Q : QV} {xs : List A} (q : Q (.int xs.length) h) : bltW .len [.kt xs] h Q := q
theorem ix_k {h : Hh} {Q : QV} {xs : List A} {i : Int} {v : A} (a : L2.atI xs i = some v) (q : Q v h) : idxW (.kt xs) (.int i) h Q := ⟨v, a, q⟩
end Z
/-! items and cuts of rows of things of a kind -/
namespace Z
open PySem L2
section
variable {α : Type} {g : α → A} {l : List α} {h : Hh} {Q : QV} {i lo hi : Int} {n : Nat}
theorem atI_map {a : α} (e : L2.atI l i = some a) : L2.atI (l.map g) i = some (g a) := by
  unfold L2.atI at e ⊢
  rw [List.length_map]
  cases z : L2.ixN l.length i with
  | none => rw [z] at e; cases e
  | some j =>
    rw [z] at e
    show (l.map g)[j]? = _
    rw [List.getElem?_map]
    have e : l[j]? = some a := e
    rw [e]
    rfl
theorem atI_pos {d : α} (h0 : 0 ≤ i) (h1 : i < l.length) : L2.atI l i = some (l.getD i.toNat d) := by
  obtain ⟨v, e1, _, e2⟩ := atI_any (l := l) h0 h1
  rw [e1, List.getD_eq_getElem?_getD, e2]
  rfl
theorem atI_neg {d : α} (h0 : i < 0) (h1 : -(l.length : Int) ≤ i) : L2.atI l i = some (l.getD (i + l.length).toNat d) := by
  unfold L2.atI L2.ixN
  rw [if_neg (by omega), if_pos h1]
  show l[(i + l.length).toNat]? = _
  have z : (i + (l.length : Int)).toNat < l.length := by omega
  rw [List.getD_eq_getElem?_getD, List.getElem?_eq_getElem z]
  rfl
variable {ns : List Int}
theorem ix_tI (h0 : 0 ≤ i) (h1 : i < ns.length) (q : Q (.int (ns.getD i.toNat 0)) h) : idxW (.tup (ns.map A.int)) (.int i) h Q := ix_t (atI_map (atI_pos h0 h1)) q
theorem ix_tN (h0 : i < 0) (h1 : -(ns.length : Int) ≤ i) (q : Q (.int (ns.getD (i + ns.length).toNat 0)) h) : idxW (.tup (ns.map A.int)) (.int i) h Q := ix_t (atI_map (atI_neg h0 h1)) q
theorem ix_lI (e : h[n]? = some (.lst (ns.map A.int))) (h0 : 0 ≤ i) (h1 : i < ns.length) (q : Q (.int (ns.getD i.toNat 0)) h) : idxW (.ref n) (.int i) h Q := ix_l e (atI_map (atI_pos h0 h1)) q
theorem ix_lN (e : h[n]? = some (.lst (ns.map A.int))) (h0 : i < 0) (h1 : -(ns.length : Int) ≤ i) (q : Q (.int (ns.getD (i + ns.length).toNat 0)) h) : idxW (.ref n) (.int i) h Q := ix_l e (atI_map (atI_neg h0 h1)) q
theorem cut_to' (h0 : 0 ≤ hi) : cutA (l.map g) none (some hi) = (l.take hi.toNat).map g := by rw [cut_to h0, List.map_take]
theorem cut_from' (h0 : 0 ≤ lo) : cutA (l.map g) (some lo) none = (l.drop lo.toNat).map g := by rw [cut_from h0, List.map_drop]
theorem cut_mid' (h0 : 0 ≤ lo) (h1 : 0 ≤ hi) : cutA (l.map g) (some lo) (some hi) = ((l.take hi.toNat).drop lo.toNat).map g := by rw [cut_mid h0 h1, List.map_drop, List.map_take]
theorem cut_neg' (h0 : hi < 0) : cutA (l.map g) none (some hi) = (l.take (hi + l.length).toNat).map g := by
  have e : hi = -(((-hi).toNat : Nat) : Int) := by omega
  rw [e, cut_neg (by omega), List.map_take, List.length_map]
  congr 2
  omega
theorem sl_tT (h0 : 0 ≤ hi) (q : Q (.tup ((l.take hi.toNat).map g)) h) : slcW (.tup (l.map g)) none (some hi) h Q := by show Q (.tup (cutA _ _ _)) h; rw [cut_to' h0]; exact q
theorem sl_tF (h0 : 0 ≤ lo) (q : Q (.tup ((l.drop lo.toNat).map g)) h) : slcW (.tup (l.map g)) (some lo) none h Q := by show Q (.tup (cutA _ _ _)) h; rw [cut_from' h0]; exact q
theorem sl_tM (h0 : 0 ≤ lo) (h1 : 0 ≤ hi) (q : Q (.tup (((l.take hi.toNat).drop lo.toNat).map g)) h) : slcW (.tup (l.map g)) (some lo) (some hi) h Q := by show Q (.tup (cutA _ _ _)) h; rw [cut_mid' h0 h1]; exact q
theorem sl_tN (h0 : hi < 0) (q : Q (.tup ((l.take (hi + l.length).toNat).map g)) h) : slcW (.tup (l.map g)) none (some hi) h Q := by show Q (.tup (cutA _ _ _)) h; rw [cut_neg' h0]; exact q
theorem sl_lT (e : h[n]? = some (.lst (l.map g))) (h0 : 0 ≤ hi) (q : new h (.lst ((l.take hi.toNat).map g)) Q) : slcW (.ref n) none (some hi) h Q := sl_l e (by rw [cut_to' h0]; exact q)
theorem sl_lF (e : h[n]? = some (.lst (l.map g))) (h0 : 0 ≤ lo) (q : new h (.lst ((l.drop lo.toNat).map g)) Q) : slcW (.ref n) (some lo) none h Q := sl_l e (by rw [cut_from' h0]; exact q)
theorem sl_lM (e : h[n]? = some (.lst (l.map g))) (h0 : 0 ≤ lo) (h1 : 0 ≤ hi) (q : new h (.lst (((l.take hi.toNat).drop lo.toNat).map g)) Q) : slcW (.ref n) (some lo) (some hi) h Q := sl_l e (by rw [cut_mid' h0 h1]; exact q)
theorem sl_lN (e : h[n]? = some (.lst (l.map g))) (h0 : hi < 0) (q : new h (.lst ((l.take (hi + l.length).toNat).map g)) Q) : slcW (.ref n) none (some hi) h Q := sl_l e (by rw [cut_neg' h0]; exact q)
theorem fm_some {β : Type} {f : α → β} {k : β → A} : l.filterMap (fun a => some (k (f a))) = (l.map f).map k := by
  rw [List.map_map]
  induction l with
  | nil => rfl
  | cons a r ih => rw [List.filterMap_cons]; simp [ih]
/-- two rows of things of a kind, put together -/
theorem b_addLM {m : Nat} {l2 : List α} (e1 : h[n]? = some (.lst (l.map g))) (e2 : h[m]? = some (.lst (l2.map g))) (s : l.length + l2.length ≤ sizeLine) (q : new h (.lst ((l ++ l2).map g)) Q) : binW .Add (.ref n) (.ref m) h Q := b_addL e1 e2 (by rw [List.length_map, List.length_map]; exact s) (by rw [← List.map_append]; exact q)
end
end Z
namespace Z
open PySem L2
section
variable {h : Hh} {Q : QV} {R : Bool → Prop} {i c : Int} {n m : Nat} {ns : List Int} {xs : List A}
theorem su_lI {R : Hh → Prop} (e : h[n]? = some (.lst (ns.map A.int))) (h0 : 0 ≤ i) (h1 : i < ns.length) (q : ∀ h', Ke [n] h h' → h'.length = h.length → h'[n]? = some (.lst ((ns.set i.toNat c).map A.int)) → R h') : subW (.ref n) (.int i) (.int c) h R := by
  refine su_l' e (t := i.toNat) ?_ ?_
  · unfold L2.ixN
    rw [List.length_map, if_pos h0, if_pos h1]
  · rw [← List.map_set]
    exact q
theorem eqvAll_nil {ds : List PyData} : PyData.eqvAll ds [] = decide (ds = []) := by cases ds <;> simp [PyData.eqvAll]
theorem c_eqE {ds : List PyData} (e1 : h[n]? = some (.lst xs)) (e2 : h[m]? = some (.lst [])) (w : DaL h xs ds) (l : LyL ds 63) (q : R (decide (xs = []))) : cmpW .Eq (.ref n) (.ref m) h R :=
  c_eqN rfl (.lst e1 w) (.lst e2 .nil) (ly_list l) (ly_list lyl_nil) (by
    show R (PyData.eqvAll ds [])
    have z := w.len
    rw [eqvAll_nil, show decide (ds = []) = decide (xs = []) by cases ds <;> cases xs <;> simp_all]
    exact q)
theorem c_neE {ds : List PyData} (e1 : h[n]? = some (.lst xs)) (e2 : h[m]? = some (.lst [])) (w : DaL h xs ds) (l : LyL ds 63) (q : R (!decide (xs = []))) : cmpW .NotEq (.ref n) (.ref m) h R :=
  c_neN rfl (.lst e1 w) (.lst e2 .nil) (ly_list l) (ly_list lyl_nil) (by
    show R (!PyData.eqvAll ds [])
    have z := w.len
    rw [eqvAll_nil, show decide (ds = []) = decide (xs = []) by cases ds <;> cases xs <;> simp_all]
    exact q)
theorem c_eqIE (e1 : h[n]? = some (.lst (ns.map A.int))) (e2 : h[m]? = some (.lst [])) (q : R (decide (ns = []))) : cmpW .Eq (.ref n) (.ref m) h R := c_eqE e1 e2 (DaL.ints ns) lyl_ints (by rw [show decide (ns.map A.int = []) = decide (ns = []) by cases ns <;> simp]; exact q)
theorem c_neIE (e1 : h[n]? = some (.lst (ns.map A.int))) (e2 : h[m]? = some (.lst [])) (q : R (!decide (ns = []))) : cmpW .NotEq (.ref n) (.ref m) h R := c_neE e1 e2 (DaL.ints ns) lyl_ints (by rw [show decide (ns.map A.int = []) = decide (ns = []) by cases ns <;> simp]; exact q)
end
theorem rngI_succ {lo : Int} {n : Nat} : rngI lo (n + 1) = rngI lo n ++ [lo + n] := by
  unfold rngI
  rw [List.range_succ, List.map_append]
  rfl
end Z
namespace Z
theorem Sq.lt {h : Hh} {v : A} {xs : List A} {p : Nat} (s : Sq h v xs) (e : v = .ref p) : p < h.length := by
  subst e
  cases s with
  | lst e => exact lt_of_get e
theorem not_sq {pg : Pg} {cs : List String} {h : Hh} {Q : QV} {x : A} {kk : String} (e : kindA h x = some kk) (b : cs.any (isB pg kk) = false) (q : Q (.bl false) h) : isiW pg cs x h Q := is_F e b q
end Z
namespace Z
theorem nodup_take {α : Type} {l : List α} {i : Nat} {a : α} (h : l.Nodup) (e : l[i]? = some a) : a ∉ l.take i := by
  have z := List.take_append_drop (i + 1) l
  rw [take_snoc e] at z
  rw [← z, List.append_assoc, List.nodup_append] at h
  intro m
  exact h.2.2 a m a (List.mem_append_left _ (List.mem_singleton.mpr rfl)) rfl
end Z
namespace Z
theorem lit_get {α : Type} {P : α → Prop} {xs : List α} {i : Nat} {x : α} (e : xs[i]? = some x) (h : ∀ y ∈ xs, P y) : P x := h x (get_mem e)
end Z

/-! ### the pure side: objects, calls of things that are defs, dicts by tuples, while -/
namespace Z
open PySem L2
section
variable {pg : Pg} {g : Fid → GQ} {xx : Xx} {σ : SA} {h : Hh} {Q : QV} {Y : XQ} {D : En} {W : XS} {k : Nat}
theorem r_fnv {x : String} {fn : Fn} (e : pg.d x = some fn) (q : Q (.fn x) h) : wpE pg g xx (.fnv x) σ h Q Y := ⟨fn, e, q⟩
theorem r_callvG {i : Nat} {f : String} {as : Es} {fn : Fn} (e1 : σ[i]? = some (some (.fn f))) (e2 : pg.d f = some fn) (e3 : as.len = fn.ps.length) (q : wpEs pg (Γ pg k) xx as σ h (fun xs h1 => Γ pg k (.d f) xs h1 Q Y) Y) : wpE pg (Γ pg k) xx (.callv i as) σ h Q Y := ⟨f, fn, e1, e2, e3, q⟩
theorem r_tix {o a : E} (q : wpE pg g xx o σ h (fun x h1 => ∃ xs, x = .kt xs ∧ wpE pg g xx a σ h1 (fun y h2 => bmW .indexT x [y] h2 Q) Y) Y) : wpE pg g xx (.tix o a) σ h Q Y := q
def methW (pg : Pg) (g : Fid → GQ) (xx : Xx) (m : String) (as : Es) (σ : SA) (x : A) (h1 : Hh) (Q : QV) (X : XQ) : Prop := ∃ n C fs fn, x = .ref n ∧ h1[n]? = some (.ins C fs) ∧ fs.lookup m = none ∧ m ≠ "__init__" ∧ pg.m C m = some fn ∧ as.len + 1 ≤ fn.ps.length ∧ fn.ps.length ≤ as.len + 1 + fn.df ∧ wpEs pg g xx as σ h1 (fun xs h2 => g (.m C m) (x :: (xs ++ List.replicate (fn.ps.length - 1 - as.len) .non)) h2 Q X) X
theorem r_meth {o : E} {m : String} {as : Es} (q : wpE pg g xx o σ h (fun x h1 => methW pg g xx m as σ x h1 Q Y) Y) : wpE pg g xx (.meth o m as) σ h Q Y := q
theorem gMe {m : String} {as : Es} {x : A} (q : methW pg g xx m as σ x h Q Y) : methW pg g xx m as σ x h Q Y := q
theorem me_G {n : Nat} {C m : String} {fs : List (String × A)} {fn : Fn} {as : Es} (e : h[n]? = some (.ins C fs)) (l : fs.lookup m = none) (ne : m ≠ "__init__") (em : pg.m C m = some fn) (el : as.len + 1 = fn.ps.length)
    (q : wpEs pg (Γ pg k) xx as σ h (fun xs h2 => Γ pg k (.m C m) (.ref n :: xs) h2 Q Y) Y) : methW pg (Γ pg k) xx m as σ (.ref n) h Q Y := by
  refine ⟨n, C, fs, fn, rfl, e, l, ne, em, Nat.le_of_eq el, by omega, wpEs_mono (Γ_mono pg k) as (fun xs h1 w => ?_) (fun _ _ _ _ z => z) q⟩
  rw [show fn.ps.length - 1 - as.len = 0 by omega, List.replicate_zero, List.append_nil]
  exact w
def mkW (pg : Pg) (k : Nat) (C : String) (xs : List A) (h1 : Hh) (Q : QV) (X : XQ) : Prop := ∀ h', Ke [] h1 h' → h'.length = h1.length + 1 → h'[h1.length]? = some (.ins C []) → Γ pg k (.m C "__init__") (.ref h1.length :: xs) h' (fun v h2 => v = .non ∧ Q (.ref h1.length) h2) X
theorem r_mkG {C : String} {as : Es} {fn : Fn} (e : pg.m C "__init__" = some fn) (el : as.len + 1 = fn.ps.length) (q : wpEs pg (Γ pg k) xx as σ h (fun xs h1 => mkW pg k C xs h1 Q Y) Y) : wpE pg (Γ pg k) xx (.mk C as) σ h Q Y := by
  refine ⟨fn, e, Nat.le_of_eq el, by omega, wpEs_mono (Γ_mono pg k) as (fun xs h1 w => ?_) (fun _ _ _ _ z => z) q⟩
  rw [show fn.ps.length - 1 - as.len = 0 by omega, List.replicate_zero, List.append_nil]
  exact w _ Ke.push (by rw [List.length_append]; rfl) hg_new
theorem gMk {C : String} {xs : List A} (q : mkW pg k C xs h Q Y) : mkW pg k C xs h Q Y := q
theorem mk_in {C : String} {xs : List A} (q : ∀ h', Ke [] h h' → h'.length = h.length + 1 → h'[h.length]? = some (.ins C []) → Γ pg k (.m C "__init__") (.ref h.length :: xs) h' (fun v h2 => v = .non ∧ Q (.ref h.length) h2) Y) : mkW pg k C xs h Q Y := q
/-- a field's store -/
def fsW (pg : Pg) (x : A) (f : String) (v : A) (h : Hh) (R : Hh → Prop) : Prop := ∃ n C fs, x = .ref n ∧ h[n]? = some (.ins C fs) ∧ (pg.fl C).contains f = true ∧ fs.length < 1000 ∧ R (h.set n (.ins C (putA f v fs)))
theorem q_fld {o : E} {f : String} {e : E} (q : wpE pg g xx e σ h (fun v h1 => wpE pg g xx o σ h1 (fun x h2 => fsW pg x f v h2 fun h3 => D.nx σ h3) (fun b c fs h1 => W b c fs σ h1)) (fun b c fs h1 => W b c fs σ h1)) : wpS pg g xx (.fld o f e) D W σ h := q
theorem gFs {x v : A} {f : String} {R : Hh → Prop} (q : fsW pg x f v h R) : fsW pg x f v h R := q
theorem fs_in {n : Nat} {C f : String} {fs : List (String × A)} {v : A} {R : Hh → Prop} (e : h[n]? = some (.ins C fs)) (c : (pg.fl C).contains f = true) (l : fs.length < 1000) (q : ∀ h', Ke [n] h h' → h'.length = h.length → h'[n]? = some (.ins C (putA f v fs)) → R h') : fsW pg (.ref n) f v h R := ⟨n, C, fs, rfl, e, c, l, sw e q⟩
/-- a field -/
def flW (pg : Pg) (x : A) (f : String) (h : Hh) (Q : QV) : Prop := ∃ n C fs v, x = .ref n ∧ h[n]? = some (.ins C fs) ∧ (pg.fl C).contains f = true ∧ fs.lookup f = some v ∧ Q v h
theorem r_fld' {o : E} {f : String} (q : wpE pg g xx o σ h (fun x h1 => flW pg x f h1 Q) Y) : wpE pg g xx (.fld o f) σ h Q Y := q
theorem gFl {x : A} {f : String} (q : flW pg x f h Q) : flW pg x f h Q := q
theorem fl_in {n : Nat} {C f : String} {fs : List (String × A)} {v : A} (e : h[n]? = some (.ins C fs)) (c : (pg.fl C).contains f = true) (l : fs.lookup f = some v) (q : Q v h) : flW pg (.ref n) f h Q := ⟨n, C, fs, v, rfl, e, c, l, q⟩
end
section
variable {h : Hh} {Q : QV} {R : Bool → Prop} {i j : Int} {n m : Nat} {xs ys : List A} {z w : PySem.Str} {x y v : A}
theorem gBx {f : Bxf} {as : List A} (q : bxW f as h Q) : bxW f as h Q := q
theorem bx_r1 (c : b62 j) (l : j.toNat ≤ 1000) (q : new h (.lst (rngA 0 j.toNat)) Q) : bxW .listR [.int j] h Q := ⟨c, l, q⟩
theorem bx_r2 (c : b62 i) (d : b62 j) (l : (j - i).toNat ≤ 1000) (q : new h (.lst (rngA i (j - i).toNat)) Q) : bxW .listR [.int i, .int j] h Q := ⟨c, d, l, q⟩
theorem bx_rev (e : h[n]? = some (.lst xs)) (q : new h (.lst xs.reverse) Q) : bxW .listRev [.ref n] h Q := ⟨xs, e, q⟩
theorem c_inT {kvs : List (List Key × A)} {ks : List Key} (e : h[n]? = some (.dT kvs)) (t : tkOf (.tup xs) = some ks) (q : R (getA kvs ks).isSome) : cmpW .In (.tup xs) (.ref n) h R := by
  show match h[n]? with | some (.lst ys) => _ | some (.dK kvs) => _ | some (.dT kvs) => _ | _ => False
  rw [e]
  exact ⟨ks, t, q⟩
theorem c_niT {kvs : List (List Key × A)} {ks : List Key} (e : h[n]? = some (.dT kvs)) (t : tkOf (.tup xs) = some ks) (q : R (!(getA kvs ks).isSome)) : cmpW .NotIn (.tup xs) (.ref n) h R := by
  show match h[n]? with | some (.lst ys) => _ | some (.dK kvs) => _ | some (.dT kvs) => _ | _ => False
  rw [e]
  exact ⟨ks, t, q⟩
theorem c_inK {kvs : List (Key × A)} {ks : Key} (e : h[n]? = some (.dK kvs)) (t : keyOf x = some ks) (q : R (getA kvs ks).isSome) : cmpW .In x (.ref n) h R := by
  show match h[n]? with | some (.lst ys) => _ | some (.dK kvs) => _ | some (.dT kvs) => _ | _ => False
  rw [e]
  exact ⟨ks, t, q⟩
theorem su_T {kvs : List (List Key × A)} {ks : List Key} {R : Hh → Prop} (e : h[n]? = some (.dT kvs)) (t : tkOf (.tup xs) = some ks) (l : kvs.length < sizeLine) (q : ∀ h', Ke [n] h h' → h'.length = h.length → h'[n]? = some (.dT (putD ks v kvs)) → R h') : subW (.ref n) (.tup xs) v h R := by
  show match h[n]? with | some (.lst xs) => _ | some (.dK kvs) => _ | some (.dT kvs) => _ | _ => False
  rw [e]
  exact ⟨ks, t, l, sw e q⟩
theorem su_K {kvs : List (Key × A)} {ks : Key} {R : Hh → Prop} (e : h[n]? = some (.dK kvs)) (t : keyOf x = some ks) (l : kvs.length < sizeLine) (q : ∀ h', Ke [n] h h' → h'.length = h.length → h'[n]? = some (.dK (putD ks v kvs)) → R h') : subW (.ref n) x v h R := by
  show match h[n]? with | some (.lst xs) => _ | some (.dK kvs) => _ | some (.dT kvs) => _ | _ => False
  rw [e]
  exact ⟨ks, t, l, sw e q⟩
theorem f_lenDT {kvs : List (List Key × A)} (e : h[n]? = some (.dT kvs)) (q : Q (.int kvs.length) h) : bltW .len [.ref n] h Q := by
  show match h[n]? with | some (.lst xs) => Q (.int xs.length) h | some (.dK kvs) => Q (.int kvs.length) h | some (.dT kvs) => Q (.int kvs.length) h | _ => False
  rw [e]
  exact q
theorem f_lenDK {kvs : List (Key × A)} (e : h[n]? = some (.dK kvs)) (q : Q (.int kvs.length) h) : bltW .len [.ref n] h Q := by
  show match h[n]? with | some (.lst xs) => Q (.int xs.length) h | some (.dK kvs) => Q (.int kvs.length) h | some (.dT kvs) => Q (.int kvs.length) h | _ => False
  rw [e]
  exact q
theorem f_tupLK (e : h[n]? = some (.lst xs)) (q : Q (.kt xs) h) : bltW .tuple [.ref n] h Q := ⟨xs, e, .inr q⟩
theorem f_tupK (q : Q (.kt xs) h) : bltW .tuple [.kt xs] h Q := q
theorem f_sortD {kvs : List (Key × A)} {ns : List Int} (e : h[n]? = some (.dK kvs)) (k : kvs.map (·.1) = ns.map Sum.inl) (l : ns.length < 64) (q : ∀ ms : List Int, ms.Perm ns → ms.Pairwise (· ≤ ·) → new h (.lst (ms.map A.int)) Q) : bltW .sorted [.ref n] h Q := .inr ⟨kvs, ns, e, k, l, q⟩
theorem f_sortP {ps : List (Int × Int)} (e : h[n]? = some (.lst (ps.map prA))) (q : ∀ qs : List (Int × Int), qs.Perm ps → qs.Pairwise (fun p q => SrtO.lexB q p = false) → new h (.lst (qs.map prA)) Q) : bltW .sorted [.ref n] h Q := .inl ⟨_, e, .inr ⟨ps, rfl, q⟩⟩
theorem f_sortTI {ns : List Int} (q : ∀ ms : List Int, ms.Perm ns → ms.Pairwise (· ≤ ·) → new h (.lst (ms.map A.int)) Q) : bltW .sorted [.tup (ns.map A.int)] h Q := .inl ⟨ns, rfl, q⟩
theorem f_sortTP {ps : List (Int × Int)} (q : ∀ qs : List (Int × Int), qs.Perm ps → qs.Pairwise (fun p q => SrtO.lexB q p = false) → new h (.lst (qs.map prA)) Q) : bltW .sorted [.tup (ps.map prA)] h Q := .inr ⟨ps, rfl, q⟩
/-- a sign of a text -/
theorem mn_s {P : Nat → Prop} (l : z.length ≤ sizeLine) (h0 : 0 ≤ i) (h1 : i < z.cps.toList.length) (hP : ∀ c ∈ z.cps.toList, P c) (q : ∀ c, P c → Q (.str ⟨#[c]⟩) h) : idxW (.str z) (.int i) h Q := by
  obtain ⟨v, a, b, _⟩ := atI_any h0 h1
  exact ⟨l, v, a, q v (hP v b)⟩
theorem sl_s {lo hi : Option Int} (l : z.length ≤ sizeLine) (q : Q (.str (cutS z lo hi)) h) : slcW (.str z) lo hi h Q := ⟨l, q⟩
theorem c_inSg {c : Nat} (q : R (decide (c ∈ z.cps.toList))) : cmpW .In (.str ⟨#[c]⟩) (.str z) h R := ⟨c, rfl, q⟩
theorem c_niSg {c : Nat} (q : R (!decide (c ∈ z.cps.toList))) : cmpW .NotIn (.str ⟨#[c]⟩) (.str z) h R := ⟨c, rfl, q⟩
theorem m_ins (e : h[n]? = some (.lst xs)) (l : xs.length < sizeLine) (h0 : 0 ≤ i) (h1 : i < 2 ^ 63) (q : ∀ h', Ke [n] h h' → h'.length = h.length → h'[n]? = some (.lst (xs.take i.toNat ++ v :: xs.drop i.toNat)) → Q .non h') : bmW .insert (.ref n) [.int i, v] h Q := ⟨xs, e, l, h0, h1, sw (R := fun h' => Q .non h') e q⟩
theorem m_popat (e : h[n]? = some (.lst xs)) (h0 : 0 ≤ i) (h1 : i < 2 ^ 63) (hk : i.toNat < xs.length) (q : ∀ x h', xs[i.toNat]? = some x → Ke [n] h h' → h'.length = h.length → h'[n]? = some (.lst (xs.eraseIdx i.toNat)) → Q x h') : bmW .popat (.ref n) [.int i] h Q := by
  refine ⟨xs, i.toNat, xs[i.toNat], e, by omega, h1, ?_, List.getElem?_eq_getElem hk, sw (R := fun h' => Q _ h') e (q _ · (List.getElem?_eq_getElem hk))⟩
  unfold seqIndex?
  rw [if_neg (show ¬ i < 0 by omega)]
  show (if (decide (0 ≤ i) && decide (i < (xs.length : Int))) = true then some i.toNat else none) = _
  rw [if_pos (by rw [Bool.and_eq_true, decide_eq_true_iff, decide_eq_true_iff]; omega)]
theorem m_pop (e : h[n]? = some (.lst (xs ++ [x]))) (q : ∀ h', Ke [n] h h' → h'.length = h.length → h'[n]? = some (.lst xs) → Q x h') : bmW .pop (.ref n) [] h Q := by
  refine ⟨xs ++ [x], x, e, by simp, ?_⟩
  rw [List.dropLast_concat]
  exact sw (R := fun h' => Q x h') e q
theorem m_join {ss : List PySem.Str} (s : sqW x h (ss.map A.str)) (l : (ss.map (·.length)).sum + ss.length * z.length ≤ 16777216) (q : Q (.str (Txt.join z ss)) h) : bmW .join (.str z) [x] h Q := ⟨ss, s, l, q⟩
theorem m_split (h0 : (w.length == 0) = false) (l : z.length + 2 ≤ sizeLine) (q : new h (.lst ((Txt.split z w).map A.str)) Q) : bmW .split (.str z) [.str w] h Q := ⟨h0, l, q⟩
theorem m_sw (q : Q (.bl (Txt.startswith z w)) h) : bmW .startswith (.str z) [.str w] h Q := q
theorem m_strip (l : z.length ≤ sizeLine) (q : Q (.str (Txt.strip z)) h) : bmW .strip (.str z) [] h Q := ⟨l, q⟩
theorem m_rstripC {y : PySem.Str} (l : z.length ≤ sizeLine) (q : Q (.str (Txt.rstripChars z y)) h) : bmW .rstripC (.str z) [.str y] h Q := ⟨l, q⟩
theorem m_up (l : z.length ≤ 5592405) (q : Q (.str (Txt.upper z)) h) : bmW .upper (.str z) [] h Q := ⟨l, q⟩
end
theorem q_while {pg : Pg} {g : Fid → GQ} {xx : Xx} {σ : SA} {h : Hh} {D : En} {W : XS} {c : E} {b : Ss} (q : ∃ n, whA (fun σ' h' Q => wpB pg g xx c σ' h' Q (fun b c fs h1 => W b c fs σ' h1)) (fun D' σ' h' => wpSs pg g xx b D' W σ' h') n D σ h) : wpS pg g xx (.while c b) D W σ h := q
/-- while, by a number that falls -/
theorem wh_inv {pg : Pg} {k : Nat} {xx : Xx} {D : En} {W : XS} {c : E} {b : Ss} (Iv : Nat → SA → Hh → Prop)
    (step : ∀ n σ h, Iv n σ h → wpE pg (Γ pg k) xx c σ h (fun x h1 => ∃ kk, x = .bl kk ∧ if kk = true then wpSs pg (Γ pg k) xx b ⟨fun σ' h' => Ok (∃ m, m < n ∧ Iv m σ' h'), D.rt, D.nx, fun σ' h' => Ok (∃ m, m < n ∧ Iv m σ' h')⟩ W σ h1 else D.nx σ h1) (fun b c fs h1 => W b c fs σ h1)) {n : Nat} {σ : SA} {h : Hh} (h0 : Iv n σ h) :
    ∃ n, whA (fun σ' h' Q => wpB pg (Γ pg k) xx c σ' h' Q (fun b c fs h1 => W b c fs σ' h1)) (fun D' σ' h' => wpSs pg (Γ pg k) xx b D' W σ' h') n D σ h := by
  have go : ∀ N n σ h, n < N → Iv n σ h → whA (fun σ' h' Q => wpB pg (Γ pg k) xx c σ' h' Q (fun b c fs h1 => W b c fs σ' h1)) (fun D' σ' h' => wpSs pg (Γ pg k) xx b D' W σ' h') N D σ h := by
    intro N
    induction N with
    | zero => intro n _ _ l; omega
    | succ N ih =>
      intro n σ h l w
      show wpB pg (Γ pg k) xx c σ h _ _
      refine wpE_mono (Γ_mono pg k) c (fun x h1 z => z.imp fun kk z => ⟨z.1, ?_⟩) (fun _ _ _ _ z => z) (step n σ h w)
      have z := z.2
      cases kk with
      | false => exact if_ (by simpa using z)
      | true =>
        refine it (wpSs_mono (Γ_mono pg k) b ?_ (fun _ _ _ _ _ z => z) (by simpa using z))
        exact ⟨fun σ' h' z => z.ok.elim fun m z => ih m σ' h' (by omega) z.2, fun _ _ z => z, fun _ _ z => z, fun σ' h' z => z.ok.elim fun m z => ih m σ' h' (by omega) z.2⟩
  exact ⟨n + 1, go (n + 1) n σ h (Nat.lt_succ_self _) h0⟩
end Z
/-! displays of a dict, walks turned about, divmod -/
namespace Z
open PySem L2
section
variable {pg : Pg} {g : Fid → GQ} {xx : Xx} {σ : SA} {h : Hh} {Q : QV} {Y : XQ} {R : Gd → List A → Hh → Prop} {n : Nat} {xs : List A}
def dspE (n : Nat) (ks : List PySem.Str) (xs : List A) (h : Hh) (Q : QV) : Prop := h[n]? = some (.dK []) ∧ xs.length = ks.length ∧ Q (.ref n) (h.set n (.dK (dspK ks xs)))
theorem r_dsp {ks : List PySem.Str} {as : Es} (q : ∀ h', Ke [] h h' → h'.length = h.length + 1 → h'[h.length]? = some (.dK []) → wpEs pg g xx as σ h' (fun xs h1 => dspE h.length ks xs h1 Q) Y) : wpE pg g xx (.dsp ks as) σ h Q Y :=
  q _ Ke.push (by rw [List.length_append]; rfl) (by rw [List.getElem?_append_right (Nat.le_refl _), Nat.sub_self]; rfl)
theorem d_spE {ks : List PySem.Str} (e : h[n]? = some (.dK [])) (l : xs.length = ks.length) (q : ∀ h', Ke [n] h h' → h'.length = h.length → h'[n]? = some (.dK (dspK ks xs)) → Q (.ref n) h') : dspE n ks xs h Q :=
  ⟨e, l, q _ Ke.set (List.length_set ..) (List.getElem?_set_self (lt_of_get e))⟩
theorem gDp {ks : List PySem.Str} (q : dspE n ks xs h Q) : dspE n ks xs h Q := q
theorem i_revR' {as : Es} (q : wpEs pg g xx as σ h (fun xs h1 => rngW xs fun G ys => R G ys.reverse h1) Y) : wpI pg g xx (.revR as) σ h R Y := q
def revW (x : A) (h : Hh) (R : Gd → List A → Hh → Prop) : Prop := (∃ n xs, x = .ref n ∧ h[n]? = some (.lst xs) ∧ R [(n, xs)] xs.reverse h) ∨ ∃ xs, x = .tup xs ∧ R [] xs.reverse h
theorem i_rev' {e : E} (q : wpE pg g xx e σ h (fun x h1 => revW x h1 R) Y) : wpI pg g xx (.rev e) σ h R Y := q
theorem rv_l (e : h[n]? = some (.lst xs)) (q : R [(n, xs)] xs.reverse h) : revW (.ref n) h R := .inl ⟨n, xs, rfl, e, q⟩
theorem rv_t (q : R [] xs.reverse h) : revW (.tup xs) h R := .inr ⟨xs, rfl, q⟩
theorem gRv {x : A} (q : revW x h R) : revW x h R := q
theorem f_dvm {i j : Int} (h0 : 0 < j) (h1 : j < 1073741824) (q : Q (.tup [.int (i / j), .int (i % j)]) h) : bltW .divmod [.int i, .int j] h Q := ⟨⟨h0, h1⟩, q⟩
end
end Z

/-! ### the pure side: rows of things of a kind, held against one another -/
namespace Z
open PySem L2
structure Enc {α : Type} [DecidableEq α] (P : α → Prop) (g : α → A) (d : α → PyData) : Prop where
  dn : ∀ S h x, Dn S h (g x) (d x)
  eqv : ∀ x y, PyData.eqv (d x) (d y) = decide (x = y)
  ly : ∀ x, P x → Ly (d x) 60
section
variable {α : Type} [DecidableEq α] {P : α → Prop} {g : α → A} {d : α → PyData} (I : Enc P g d)
include I
theorem Enc.dnl {S : List Nat} {h : Hh} : ∀ l : List α, DnL S h (l.map g) (l.map d)
  | [] => .nil
  | x :: r => .cons (I.dn S h x) (Enc.dnl r)
theorem Enc.dal {h : Hh} (l : List α) : DaL h (l.map g) (l.map d) := (I.dnl (S := []) l).da
theorem Enc.da {h : Hh} (x : α) : Da h (g x) (d x) := (I.dn [] h x).da
theorem Enc.eqvAll : ∀ l m : List α, PyData.eqvAll (l.map d) (m.map d) = decide (l = m)
  | [], [] => rfl
  | [], _ :: _ => rfl
  | _ :: _, [] => rfl
  | a :: r, b :: t => by
    simp only [List.map_cons, PyData.eqvAll, I.eqv, Enc.eqvAll r t, List.cons.injEq]
    by_cases z : a = b
    · subst z; simp
    · simp [z]
theorem Enc.any {x : α} : ∀ l : List α, ((l.map d).any fun e => PyData.eqv e (d x)) = decide (x ∈ l)
  | [] => rfl
  | a :: r => by
    simp only [List.map_cons, List.any_cons, I.eqv, Enc.any r, List.mem_cons]
    by_cases z : a = x
    · subst z; simp
    · have z2 : ¬ x = a := fun e => z e.symm
      simp [z, z2]
theorem Enc.lyl {l : List α} (p : ∀ x ∈ l, P x) : LyL (l.map d) 60 := lyl_of fun e m => by
  obtain ⟨x, hx, rfl⟩ := List.mem_map.mp m
  exact I.ly x (p x hx)
omit I in
theorem LyL.mono {ds : List PyData} {e e' : Nat} (h : LyL ds e) (he : e ≤ e') : LyL ds e' := ⟨h.lay, Nat.le_trans h.dp he⟩
section
variable {h : Hh} {Q : QV} {R : Bool → Prop} {n m : Nat} {l r : List α} {x y : α}
theorem c_eqG (e1 : h[n]? = some (.lst (l.map g))) (e2 : h[m]? = some (.lst (r.map g))) (p1 : ∀ x ∈ l, P x) (p2 : ∀ x ∈ r, P x) (q : R (decide (l = r))) : cmpW .Eq (.ref n) (.ref m) h R :=
  c_eqN rfl (.lst e1 (I.dal l)) (.lst e2 (I.dal r)) (ly_list ((I.lyl p1).mono (by decide))) (ly_list ((I.lyl p2).mono (by decide))) (by show R (PyData.eqvAll _ _); rw [I.eqvAll]; exact q)
theorem c_neG (e1 : h[n]? = some (.lst (l.map g))) (e2 : h[m]? = some (.lst (r.map g))) (p1 : ∀ x ∈ l, P x) (p2 : ∀ x ∈ r, P x) (q : R (!decide (l = r))) : cmpW .NotEq (.ref n) (.ref m) h R :=
  c_neN rfl (.lst e1 (I.dal l)) (.lst e2 (I.dal r)) (ly_list ((I.lyl p1).mono (by decide))) (ly_list ((I.lyl p2).mono (by decide))) (by show R (!PyData.eqvAll _ _); rw [I.eqvAll]; exact q)
theorem c_eqGE (e1 : h[n]? = some (.lst (l.map g))) (e2 : h[m]? = some (.lst [])) (p1 : ∀ x ∈ l, P x) (q : R (decide (l = []))) : cmpW .Eq (.ref n) (.ref m) h R :=
  c_eqG I e1 (r := []) e2 p1 (fun _ m => by cases m) q
theorem c_neGE (e1 : h[n]? = some (.lst (l.map g))) (e2 : h[m]? = some (.lst [])) (p1 : ∀ x ∈ l, P x) (q : R (!decide (l = []))) : cmpW .NotEq (.ref n) (.ref m) h R :=
  c_neG I e1 (r := []) e2 p1 (fun _ m => by cases m) q
theorem c_inG (e : h[n]? = some (.lst (l.map g))) (p : ∀ x ∈ l, P x) (px : P x) (q : R (decide (x ∈ l))) : cmpW .In (g x) (.ref n) h R := c_inN' e (I.da x) (I.dal l) ((I.ly x px).mono (by decide)) ((I.lyl p).mono (by decide)) (by rw [I.any]; exact q)
theorem c_niG (e : h[n]? = some (.lst (l.map g))) (p : ∀ x ∈ l, P x) (px : P x) (q : R (!decide (x ∈ l))) : cmpW .NotIn (g x) (.ref n) h R := c_niN' e (I.da x) (I.dal l) ((I.ly x px).mono (by decide)) ((I.lyl p).mono (by decide)) (by rw [I.any]; exact q)
theorem c_eq1 (s : sc (g x) (g y) = none) (px : P x) (py : P y) (q : R (decide (x = y))) : cmpW .Eq (g x) (g y) h R := c_eqN s (I.da x) (I.da y) ((I.ly x px).mono (by decide)) ((I.ly y py).mono (by decide)) (by rw [I.eqv]; exact q)
theorem c_ne1 (s : sc (g x) (g y) = none) (px : P x) (py : P y) (q : R (!decide (x = y))) : cmpW .NotEq (g x) (g y) h R := c_neN s (I.da x) (I.da y) ((I.ly x px).mono (by decide)) ((I.ly y py).mono (by decide)) (by rw [I.eqv]; exact q)
end
end
section
variable {α : Type} {g : α → A} {h : Hh} {Q : QV} {l : List α} {n : Nat} {i : Int}
theorem f_lenLG (e : h[n]? = some (.lst (l.map g))) (q : Q (.int l.length) h) : bltW .len [.ref n] h Q := f_lenL e (by rw [List.length_map]; exact q)
theorem f_lenTG (q : Q (.int l.length) h) : bltW .len [.tup (l.map g)] h Q := f_lenT (by rw [List.length_map]; exact q)
theorem f_lenKG (q : Q (.int l.length) h) : bltW .len [.kt (l.map g)] h Q := f_lenK (by rw [List.length_map]; exact q)
/-- an item, known by its place -/
theorem ix_lG {a : α} (e : h[n]? = some (.lst (l.map g))) (e2 : L2.atI l i = some a) (q : Q (g a) h) : idxW (.ref n) (.int i) h Q := ix_l e (atI_map e2) q
theorem ix_last {a : α} (e : h[n]? = some (.lst ((l ++ [a]).map g))) (q : Q (g a) h) : idxW (.ref n) (.int (-1)) h Q := by
  refine ix_lG e ?_ q
  have hl : (l ++ [a]).length = l.length + 1 := by simp
  rw [atI_neg (d := a) (by decide) (by omega), show (-1 + ((l ++ [a]).length : Int)).toNat = l.length by omega]
  simp [List.getD]
theorem su_last {a b : α} {R : Hh → Prop} (e : h[n]? = some (.lst ((l ++ [a]).map g))) (q : ∀ h', Ke [n] h h' → h'.length = h.length → h'[n]? = some (.lst ((l ++ [b]).map g)) → R h') : subW (.ref n) (.int (-1)) (g b) h R := by
  refine su_l' e (t := l.length) ?_ ?_
  · unfold L2.ixN
    have hl : ((l ++ [a]).map g).length = l.length + 1 := by simp
    rw [if_neg (by decide), if_pos (by omega), show (-1 + (((l ++ [a]).map g).length : Int)).toNat = l.length by omega]
  · have e2 : ((l ++ [a]).map g).set l.length (g b) = (l ++ [b]).map g := by
      rw [← List.map_set]
      congr 1
      rw [List.set_append_right _ _ (Nat.le_refl _), Nat.sub_self]
      rfl
    rw [e2]
    exact q
end
/-! pairs of numbers -/
def prD (p : Int × Int) : PyData := .tuple [.int p.1, .int p.2]
theorem enc_pr : Enc (fun _ => True) prA prD where
  dn := fun S h x => .tup (.cons (.int _) (.cons (.int _) .nil))
  eqv := fun x y => by
    simp only [prD, PyData.eqv, PyData.eqvAll, Bool.and_true]
    rw [Bool.eq_iff_iff, Bool.and_eq_true, beq_iff_eq, beq_iff_eq, decide_eq_true_iff, Prod.ext_iff]
  ly := fun x _ => ly_tup (lyl_cons ly_int (lyl_cons ly_int lyl_nil))
theorem ix_pr0 {h : Hh} {Q : QV} {r : Int × Int} (q : Q (.int r.1) h) : idxW (prA r) (.int 0) h Q := ⟨_, rfl, q⟩
theorem ix_pr1 {h : Hh} {Q : QV} {r : Int × Int} (q : Q (.int r.2) h) : idxW (prA r) (.int 1) h Q := ⟨_, rfl, q⟩
theorem lt_take {ms : List Int} {i : Nat} {a : Int} (pw : ms.Pairwise (· < ·)) (e : ms[i]? = some a) : ∀ y ∈ ms.take i, y < a := by
  intro y m
  obtain ⟨hi, e⟩ := List.getElem?_eq_some_iff.mp e
  obtain ⟨j, hj, e2⟩ := List.mem_iff_getElem.mp m
  rw [List.length_take] at hj
  rw [List.getElem_take] at e2
  rw [← e, ← e2]
  exact List.pairwise_iff_getElem.mp pw j i (by omega) hi (by omega)
theorem enc_str : Enc Sg A.str PyData.str where
  dn := fun S h x => .str x
  eqv := fun x y => by
    simp only [PyData.eqv]
    rw [Bool.eq_iff_iff, beq_iff_eq, decide_eq_true_iff]
  ly := fun x h => ly_str h
theorem enc_int : Enc (fun _ => True) A.int PyData.int where
  dn := fun S h x => .int x
  eqv := fun x y => by
    simp only [PyData.eqv]
    rw [Bool.eq_iff_iff, beq_iff_eq, decide_eq_true_iff]
  ly := fun x _ => ly_int
end Z
namespace Z
open PySem L2
section
variable {h : Hh} {R : Bool → Prop} {n m : Nat} {l r : List (Int × Int)} {s t : List PySem.Str}
theorem c_neP (e1 : h[n]? = some (.lst (l.map prA))) (e2 : h[m]? = some (.lst (r.map prA))) (q : R (!decide (l = r))) : cmpW .NotEq (.ref n) (.ref m) h R := c_neG enc_pr e1 e2 (fun _ _ => trivial) (fun _ _ => trivial) q
theorem c_eqP (e1 : h[n]? = some (.lst (l.map prA))) (e2 : h[m]? = some (.lst (r.map prA))) (q : R (decide (l = r))) : cmpW .Eq (.ref n) (.ref m) h R := c_eqG enc_pr e1 e2 (fun _ _ => trivial) (fun _ _ => trivial) q
theorem c_nePE (e1 : h[n]? = some (.lst (l.map prA))) (e2 : h[m]? = some (.lst [])) (q : R (!decide (l = []))) : cmpW .NotEq (.ref n) (.ref m) h R := c_neGE enc_pr e1 e2 (fun _ _ => trivial) q
theorem c_eqPE (e1 : h[n]? = some (.lst (l.map prA))) (e2 : h[m]? = some (.lst [])) (q : R (decide (l = []))) : cmpW .Eq (.ref n) (.ref m) h R := c_eqGE enc_pr e1 e2 (fun _ _ => trivial) q
/-- by no more than that it is no row of nothing -/
theorem c_neX {xs : List A} {ds : List PyData} (e1 : h[n]? = some (.lst xs)) (e2 : h[m]? = some (.lst [])) (w : DaL h xs ds) (l : LyL ds 60) (q : R (!decide (xs = []))) : cmpW .NotEq (.ref n) (.ref m) h R := c_neE e1 e2 w (l.mono (by decide)) q
end
end Z
namespace Z
open PySem L2
/-- a comprehension that lays new things, no more -/
theorem lc_fmK {α : Type} {g : α → A} {l : List α} {pg : Pg} {k : Nat} {xx : Xx} {σ : SA} {vs : List Nat} {tg : Tg} {c elt : E} {G : Gd} {Q : Hh → Prop} {h0 : Hh} (F : α → Option A) (hl : l.length ≤ 2 ^ 20) (hG : ∀ h', Ke [] h0 h' → gdOk G h')
    (step : ∀ a h R, a ∈ l → Ke [] h0 h → h0.length < h.length → (∀ h', Ke [] h h' → R (F a) h') → lcSt pg (Γ pg k) xx σ vs tg c elt (g a) h R)
    (done : ∀ h, Ke [] h0 h → h0.length < h.length → h[h0.length]? = some (.lst (l.filterMap F)) → Q h) :
    lcA G h0.length (lcSt pg (Γ pg k) xx σ vs tg c elt) Q (l.map g) (h0 ++ [.lst []]) := by
  refine lc_inv [] (fun i acc _ => acc = (l.take i).filterMap F) kc0 (by rw [List.length_map]; exact hl) hG (fun _ _ _ => rfl) (fun i x acc h e a1 a2 a3 a4 a5 => ?_) (fun acc h a1 a2 a3 a4 a5 => ?_)
  · obtain ⟨a, ea, rfl⟩ := map_get e
    refine step a h _ (get_mem ea) a3 a4 fun h' k' => ⟨⟨k', ?_⟩⟩
    have e1 : l.take (i + 1) = l.take i ++ [a] := by rw [List.take_add_one, ea]; rfl
    cases z : F a with
    | none => show acc = _; rw [e1, List.filterMap_append, a2]; simp [z]
    | some y => intro h2 _ _; rw [e1, List.filterMap_append, a2]; simp [z]
  · rw [List.length_map, List.take_length] at a1
    exact done h a2 a3 (a1 ▸ a4)
end Z
/-! rows of things that stand in the text: turn by turn -/
namespace Z
open PySem L2
section
variable {h : Hh} {R : Bool → Prop} {n m : Nat} {x y : A} {b : Bool}
theorem c_neNil (e1 : h[n]? = some (.lst [])) (e2 : h[m]? = some (.lst [])) (q : R false) : cmpW .NotEq (.ref n) (.ref m) h R := c_neE e1 e2 DaL.nil lyl_nil (by simpa using q)
theorem c_eqNil (e1 : h[n]? = some (.lst [])) (e2 : h[m]? = some (.lst [])) (q : R true) : cmpW .Eq (.ref n) (.ref m) h R := c_eqE e1 e2 DaL.nil lyl_nil (by simpa using q)
theorem c_neSc (s : sc x y = some b) (q : R (!b)) : cmpW .NotEq x y h R := by
  show eqW x y h fun b => R (!b)
  unfold eqW
  rw [s]
  exact q
theorem c_neDI {kvs : List (Key × A)} {i : Int} (e : h[n]? = some (.dK kvs)) (q : R true) : cmpW .NotEq (.ref n) (.int i) h R := by
  show eqW (.ref n) (.int i) h fun b => R (!b)
  exact .inl ⟨.inl ⟨_, _, _, rfl, rfl, e⟩, q⟩
theorem c_eqDI {kvs : List (Key × A)} {i : Int} (e : h[n]? = some (.dK kvs)) (q : R false) : cmpW .Eq (.ref n) (.int i) h R := by
  show eqW (.ref n) (.int i) h R
  exact .inl ⟨.inl ⟨_, _, _, rfl, rfl, e⟩, q⟩
theorem c_neDS {kvs : List (Key × A)} {z : PySem.Str} (e : h[n]? = some (.dK kvs)) (q : R true) : cmpW .NotEq (.ref n) (.str z) h R := by
  show eqW (.ref n) (.str z) h fun b => R (!b)
  exact .inl ⟨.inr (.inl ⟨_, _, _, rfl, rfl, e⟩), q⟩
theorem c_eqDS {kvs : List (Key × A)} {z : PySem.Str} (e : h[n]? = some (.dK kvs)) (q : R false) : cmpW .Eq (.ref n) (.str z) h R := by
  show eqW (.ref n) (.str z) h R
  exact .inl ⟨.inr (.inl ⟨_, _, _, rfl, rfl, e⟩), q⟩
theorem c_neLen {m : Nat} {xs ys : List A} (e : h[n]? = some (.lst xs)) (e2 : h[m]? = some (.lst ys)) (l : xs.length ≠ ys.length) (q : R true) : cmpW .NotEq (.ref n) (.ref m) h R := by
  show eqW (.ref n) (.ref m) h fun b => R (!b)
  exact .inl ⟨.inr (.inr ⟨_, _, _, _, rfl, rfl, e, e2, l⟩), q⟩
theorem c_eqLen {m : Nat} {xs ys : List A} (e : h[n]? = some (.lst xs)) (e2 : h[m]? = some (.lst ys)) (l : xs.length ≠ ys.length) (q : R false) : cmpW .Eq (.ref n) (.ref m) h R := by
  show eqW (.ref n) (.ref m) h R
  exact .inl ⟨.inr (.inr ⟨_, _, _, _, rfl, rfl, e, e2, l⟩), q⟩
theorem c_eqSc (s : sc x y = some b) (q : R b) : cmpW .Eq x y h R := by
  show eqW x y h R
  unfold eqW
  rw [s]
  exact q
end
section
variable {G : Gd} {D : En} {σ : SA} {h : Hh} {xs : List A} {x : A}
theorem gFA {st : A → En → SA → Hh → Prop} (q : forA G st xs D σ h) : forA G st xs D σ h := q
theorem fa_nil {st : A → En → SA → Hh → Prop} (g : gdOk G h) (q : D.nx σ h) : forA G st [] D σ h := ⟨g, q⟩
theorem fa_cons {st : A → En → SA → Hh → Prop} (g : gdOk G h) (q : st x ⟨forA G st xs D, D.rt, D.nx, forA G st xs D⟩ σ h) : forA G st (x :: xs) D σ h := ⟨g, q⟩
theorem gLA {st : A → Hh → (Option A → Hh → Prop) → Prop} {n : Nat} {Q : Hh → Prop} (q : lcA G n st Q xs h) : lcA G n st Q xs h := q
theorem la_nil {st : A → Hh → (Option A → Hh → Prop) → Prop} {n : Nat} {Q : Hh → Prop} (g : gdOk G h) (q : Q h) : lcA G n st Q [] h := ⟨g, q⟩
/-- one more -/
def lput (n : Nat) (y : A) (h : Hh) (R : Hh → Prop) : Prop := ∃ acc, h[n]? = some (.lst acc) ∧ acc.length < sizeLine ∧ R (h.set n (.lst (acc ++ [y])))
theorem gLP {n : Nat} {y : A} {R : Hh → Prop} (q : lput n y h R) : lput n y h R := q
theorem lp_in {n : Nat} {y : A} {acc : List A} {R : Hh → Prop} (e : h[n]? = some (.lst acc)) (l : acc.length < sizeLine) (q : ∀ h', Ke [n] h h' → h'.length = h.length → h'[n]? = some (.lst (acc ++ [y])) → R h') : lput n y h R := ⟨acc, e, l, sw e q⟩
theorem la_cons {pg : Pg} {k : Nat} {xx : Xx} {vs : List Nat} {tg : Tg} {c elt : E} {n : Nat} {Q : Hh → Prop} (g : gdOk G h)
    (q : tgW tg x (wipeA σ vs) fun σ2 => wpC (wpE pg (Γ pg k) xx c) c σ2 h (fun k1 h3 => if k1 = true then wpE pg (Γ pg k) xx elt σ2 h3 (fun y h4 => lput n y h4 fun h5 => lcA G n (lcSt pg (Γ pg k) xx σ vs tg c elt) Q xs h5) (fun _ _ _ _ => False) else lcA G n (lcSt pg (Γ pg k) xx σ vs tg c elt) Q xs h3)) :
    lcA G n (lcSt pg (Γ pg k) xx σ vs tg c elt) Q (x :: xs) h := ⟨g, q⟩
/-- the new row of a comprehension -/
theorem la_new {pg : Pg} {k : Nat} {xx : Xx} {vs : List Nat} {tg : Tg} {c elt : E} {Q : Hh → Prop} (q : ∀ h', Ke [] h h' → h'.length = h.length + 1 → h'[h.length]? = some (.lst []) → lcA G h.length (lcSt pg (Γ pg k) xx σ vs tg c elt) Q xs h') :
    lcA G h.length (lcSt pg (Γ pg k) xx σ vs tg c elt) Q xs (h ++ [.lst []]) := q _ Ke.push (by rw [List.length_append]; rfl) hg_new
end
end Z

/-! ### the pure side: loops whose variables stay, but for the last ones -/
namespace Z
open PySem L2
theorem sp0 {r : SA} : r = [] ++ r := rfl
theorem sp1 {r : SA} {a0 : Option A} : a0 :: r = [a0] ++ r := rfl
theorem sp2 {r : SA} {a0 a1 : Option A} : a0 :: a1 :: r = [a0, a1] ++ r := rfl
theorem sp3 {r : SA} {a0 a1 a2 : Option A} : a0 :: a1 :: a2 :: r = [a0, a1, a2] ++ r := rfl
theorem sp4 {r : SA} {a0 a1 a2 a3 : Option A} : a0 :: a1 :: a2 :: a3 :: r = [a0, a1, a2, a3] ++ r := rfl
theorem sp5 {r : SA} {a0 a1 a2 a3 a4 : Option A} : a0 :: a1 :: a2 :: a3 :: a4 :: r = [a0, a1, a2, a3, a4] ++ r := rfl
theorem sp6 {r : SA} {a0 a1 a2 a3 a4 a5 : Option A} : a0 :: a1 :: a2 :: a3 :: a4 :: a5 :: r = [a0, a1, a2, a3, a4, a5] ++ r := rfl
theorem sp7 {r : SA} {a0 a1 a2 a3 a4 a5 a6 : Option A} : a0 :: a1 :: a2 :: a3 :: a4 :: a5 :: a6 :: r = [a0, a1, a2, a3, a4, a5, a6] ++ r := rfl
theorem sp8 {r : SA} {a0 a1 a2 a3 a4 a5 a6 a7 : Option A} : a0 :: a1 :: a2 :: a3 :: a4 :: a5 :: a6 :: a7 :: r = [a0, a1, a2, a3, a4, a5, a6, a7] ++ r := rfl
theorem sp9 {r : SA} {a0 a1 a2 a3 a4 a5 a6 a7 a8 : Option A} : a0 :: a1 :: a2 :: a3 :: a4 :: a5 :: a6 :: a7 :: a8 :: r = [a0, a1, a2, a3, a4, a5, a6, a7, a8] ++ r := rfl
theorem sp10 {r : SA} {a0 a1 a2 a3 a4 a5 a6 a7 a8 a9 : Option A} : a0 :: a1 :: a2 :: a3 :: a4 :: a5 :: a6 :: a7 :: a8 :: a9 :: r = [a0, a1, a2, a3, a4, a5, a6, a7, a8, a9] ++ r := rfl
theorem sp11 {r : SA} {a0 a1 a2 a3 a4 a5 a6 a7 a8 a9 a10 : Option A} : a0 :: a1 :: a2 :: a3 :: a4 :: a5 :: a6 :: a7 :: a8 :: a9 :: a10 :: r = [a0, a1, a2, a3, a4, a5, a6, a7, a8, a9, a10] ++ r := rfl
theorem sp12 {r : SA} {a0 a1 a2 a3 a4 a5 a6 a7 a8 a9 a10 a11 : Option A} : a0 :: a1 :: a2 :: a3 :: a4 :: a5 :: a6 :: a7 :: a8 :: a9 :: a10 :: a11 :: r = [a0, a1, a2, a3, a4, a5, a6, a7, a8, a9, a10, a11] ++ r := rfl
theorem sp13 {r : SA} {a0 a1 a2 a3 a4 a5 a6 a7 a8 a9 a10 a11 a12 : Option A} : a0 :: a1 :: a2 :: a3 :: a4 :: a5 :: a6 :: a7 :: a8 :: a9 :: a10 :: a11 :: a12 :: r = [a0, a1, a2, a3, a4, a5, a6, a7, a8, a9, a10, a11, a12] ++ r := rfl
theorem sp14 {r : SA} {a0 a1 a2 a3 a4 a5 a6 a7 a8 a9 a10 a11 a12 a13 : Option A} : a0 :: a1 :: a2 :: a3 :: a4 :: a5 :: a6 :: a7 :: a8 :: a9 :: a10 :: a11 :: a12 :: a13 :: r = [a0, a1, a2, a3, a4, a5, a6, a7, a8, a9, a10, a11, a12, a13] ++ r := rfl
theorem sp15 {r : SA} {a0 a1 a2 a3 a4 a5 a6 a7 a8 a9 a10 a11 a12 a13 a14 : Option A} : a0 :: a1 :: a2 :: a3 :: a4 :: a5 :: a6 :: a7 :: a8 :: a9 :: a10 :: a11 :: a12 :: a13 :: a14 :: r = [a0, a1, a2, a3, a4, a5, a6, a7, a8, a9, a10, a11, a12, a13, a14] ++ r := rfl
theorem sp16 {r : SA} {a0 a1 a2 a3 a4 a5 a6 a7 a8 a9 a10 a11 a12 a13 a14 a15 : Option A} : a0 :: a1 :: a2 :: a3 :: a4 :: a5 :: a6 :: a7 :: a8 :: a9 :: a10 :: a11 :: a12 :: a13 :: a14 :: a15 :: r = [a0, a1, a2, a3, a4, a5, a6, a7, a8, a9, a10, a11, a12, a13, a14, a15] ++ r := rfl
theorem sp17 {r : SA} {a0 a1 a2 a3 a4 a5 a6 a7 a8 a9 a10 a11 a12 a13 a14 a15 a16 : Option A} : a0 :: a1 :: a2 :: a3 :: a4 :: a5 :: a6 :: a7 :: a8 :: a9 :: a10 :: a11 :: a12 :: a13 :: a14 :: a15 :: a16 :: r = [a0, a1, a2, a3, a4, a5, a6, a7, a8, a9, a10, a11, a12, a13, a14, a15, a16] ++ r := rfl
theorem sp18 {r : SA} {a0 a1 a2 a3 a4 a5 a6 a7 a8 a9 a10 a11 a12 a13 a14 a15 a16 a17 : Option A} : a0 :: a1 :: a2 :: a3 :: a4 :: a5 :: a6 :: a7 :: a8 :: a9 :: a10 :: a11 :: a12 :: a13 :: a14 :: a15 :: a16 :: a17 :: r = [a0, a1, a2, a3, a4, a5, a6, a7, a8, a9, a10, a11, a12, a13, a14, a15, a16, a17] ++ r := rfl
theorem sp19 {r : SA} {a0 a1 a2 a3 a4 a5 a6 a7 a8 a9 a10 a11 a12 a13 a14 a15 a16 a17 a18 : Option A} : a0 :: a1 :: a2 :: a3 :: a4 :: a5 :: a6 :: a7 :: a8 :: a9 :: a10 :: a11 :: a12 :: a13 :: a14 :: a15 :: a16 :: a17 :: a18 :: r = [a0, a1, a2, a3, a4, a5, a6, a7, a8, a9, a10, a11, a12, a13, a14, a15, a16, a17, a18] ++ r := rfl
theorem sp20 {r : SA} {a0 a1 a2 a3 a4 a5 a6 a7 a8 a9 a10 a11 a12 a13 a14 a15 a16 a17 a18 a19 : Option A} : a0 :: a1 :: a2 :: a3 :: a4 :: a5 :: a6 :: a7 :: a8 :: a9 :: a10 :: a11 :: a12 :: a13 :: a14 :: a15 :: a16 :: a17 :: a18 :: a19 :: r = [a0, a1, a2, a3, a4, a5, a6, a7, a8, a9, a10, a11, a12, a13, a14, a15, a16, a17, a18, a19] ++ r := rfl
theorem sp21 {r : SA} {a0 a1 a2 a3 a4 a5 a6 a7 a8 a9 a10 a11 a12 a13 a14 a15 a16 a17 a18 a19 a20 : Option A} : a0 :: a1 :: a2 :: a3 :: a4 :: a5 :: a6 :: a7 :: a8 :: a9 :: a10 :: a11 :: a12 :: a13 :: a14 :: a15 :: a16 :: a17 :: a18 :: a19 :: a20 :: r = [a0, a1, a2, a3, a4, a5, a6, a7, a8, a9, a10, a11, a12, a13, a14, a15, a16, a17, a18, a19, a20] ++ r := rfl
theorem sp22 {r : SA} {a0 a1 a2 a3 a4 a5 a6 a7 a8 a9 a10 a11 a12 a13 a14 a15 a16 a17 a18 a19 a20 a21 : Option A} : a0 :: a1 :: a2 :: a3 :: a4 :: a5 :: a6 :: a7 :: a8 :: a9 :: a10 :: a11 :: a12 :: a13 :: a14 :: a15 :: a16 :: a17 :: a18 :: a19 :: a20 :: a21 :: r = [a0, a1, a2, a3, a4, a5, a6, a7, a8, a9, a10, a11, a12, a13, a14, a15, a16, a17, a18, a19, a20, a21] ++ r := rfl
theorem okj0 {σ pre : SA} {S : List Nat} {h0 h : Hh} {P : Prop} (e : σ = pre ++ []) (k : Ke S h0 h) (p : P) : Ok (σ = pre ++ [] ∧ Ke S h0 h ∧ P) := Ok.mk ⟨e, k, p⟩
theorem for_j0 {pg : Pg} {k : Nat} {xx : Xx} {σ : SA} {h0 : Hh} {D : En} {W : XS} {G : Gd} {t : Tg} {b : Ss} {xs : List A} {pre : SA} (e : σ = pre ++ []) (S : List Nat) (P : Nat → Hh → Prop) (p0 : P 0 h0) (hG : ∀ h, Ke S h0 h → gdOk G h)
    (step : ∀ i x h, xs[i]? = some x → Ke S h0 h → P i h → tgW t x (pre ++ []) fun σ2 => wpSs pg (Γ pg k) xx b ⟨fun σ h => Ok (σ = pre ++ [] ∧ Ke S h0 h ∧ P (i + 1) h), D.rt, D.nx, fun σ h => Ok (σ = pre ++ [] ∧ Ke S h0 h ∧ P (i + 1) h)⟩ W σ2 h)
    (done : ∀ h, Ke S h0 h → P xs.length h → D.nx (pre ++ []) h) : forA G (fun x D' σ' h' => tgW t x σ' fun σ2 => wpSs pg (Γ pg k) xx b D' W σ2 h') xs D σ h0 := by
  refine for_inv (fun i σ h => σ = pre ++ [] ∧ Ke S h0 h ∧ P i h) ?_ ?_ ?_ ?_
  · exact ⟨e, Ke.refl, p0⟩
  · rintro i σ h _ ⟨_, kk, _⟩
    exact hG h kk
  · rintro i x σ h e1 ⟨rfl, kk, w⟩
    exact step i x h e1 kk w 
  · rintro σ h ⟨rfl, kk, w⟩
    exact done h kk w 
theorem okj1 {σ pre : SA} {S : List Nat} {h0 h : Hh} {P : Prop} {y1 : Option A} (e : σ = pre ++ [y1]) (k : Ke S h0 h) (p : P) : Ok (∃ y1 : Option A, σ = pre ++ [y1] ∧ Ke S h0 h ∧ P) := Ok.mk ⟨_, e, k, p⟩
theorem for_j1 {pg : Pg} {k : Nat} {xx : Xx} {σ : SA} {h0 : Hh} {D : En} {W : XS} {G : Gd} {t : Tg} {b : Ss} {xs : List A} {pre : SA} {y1 : Option A} (e : σ = pre ++ [y1]) (S : List Nat) (P : Nat → Hh → Prop) (p0 : P 0 h0) (hG : ∀ h, Ke S h0 h → gdOk G h)
    (step : ∀ i x h, xs[i]? = some x → Ke S h0 h → P i h → ∀ y1 : Option A, tgW t x (pre ++ [y1]) fun σ2 => wpSs pg (Γ pg k) xx b ⟨fun σ h => Ok (∃ y1 : Option A, σ = pre ++ [y1] ∧ Ke S h0 h ∧ P (i + 1) h), D.rt, D.nx, fun σ h => Ok (∃ y1 : Option A, σ = pre ++ [y1] ∧ Ke S h0 h ∧ P (i + 1) h)⟩ W σ2 h)
    (done : ∀ h, Ke S h0 h → P xs.length h → ∀ y1 : Option A, D.nx (pre ++ [y1]) h) : forA G (fun x D' σ' h' => tgW t x σ' fun σ2 => wpSs pg (Γ pg k) xx b D' W σ2 h') xs D σ h0 := by
  refine for_inv (fun i σ h => ∃ y1 : Option A, σ = pre ++ [y1] ∧ Ke S h0 h ∧ P i h) ?_ ?_ ?_ ?_
  · exact ⟨_, e, Ke.refl, p0⟩
  · rintro i σ h _ ⟨_, _, kk, _⟩
    exact hG h kk
  · rintro i x σ h e1 ⟨y1, rfl, kk, w⟩
    exact step i x h e1 kk w y1
  · rintro σ h ⟨y1, rfl, kk, w⟩
    exact done h kk w y1
theorem okj2 {σ pre : SA} {S : List Nat} {h0 h : Hh} {P : Prop} {y1 y2 : Option A} (e : σ = pre ++ [y1, y2]) (k : Ke S h0 h) (p : P) : Ok (∃ y1 y2 : Option A, σ = pre ++ [y1, y2] ∧ Ke S h0 h ∧ P) := Ok.mk ⟨_, _, e, k, p⟩
theorem for_j2 {pg : Pg} {k : Nat} {xx : Xx} {σ : SA} {h0 : Hh} {D : En} {W : XS} {G : Gd} {t : Tg} {b : Ss} {xs : List A} {pre : SA} {y1 y2 : Option A} (e : σ = pre ++ [y1, y2]) (S : List Nat) (P : Nat → Hh → Prop) (p0 : P 0 h0) (hG : ∀ h, Ke S h0 h → gdOk G h)
    (step : ∀ i x h, xs[i]? = some x → Ke S h0 h → P i h → ∀ y1 y2 : Option A, tgW t x (pre ++ [y1, y2]) fun σ2 => wpSs pg (Γ pg k) xx b ⟨fun σ h => Ok (∃ y1 y2 : Option A, σ = pre ++ [y1, y2] ∧ Ke S h0 h ∧ P (i + 1) h), D.rt, D.nx, fun σ h => Ok (∃ y1 y2 : Option A, σ = pre ++ [y1, y2] ∧ Ke S h0 h ∧ P (i + 1) h)⟩ W σ2 h)
    (done : ∀ h, Ke S h0 h → P xs.length h → ∀ y1 y2 : Option A, D.nx (pre ++ [y1, y2]) h) : forA G (fun x D' σ' h' => tgW t x σ' fun σ2 => wpSs pg (Γ pg k) xx b D' W σ2 h') xs D σ h0 := by
  refine for_inv (fun i σ h => ∃ y1 y2 : Option A, σ = pre ++ [y1, y2] ∧ Ke S h0 h ∧ P i h) ?_ ?_ ?_ ?_
  · exact ⟨_, _, e, Ke.refl, p0⟩
  · rintro i σ h _ ⟨_, _, _, kk, _⟩
    exact hG h kk
  · rintro i x σ h e1 ⟨y1, y2, rfl, kk, w⟩
    exact step i x h e1 kk w y1 y2
  · rintro σ h ⟨y1, y2, rfl, kk, w⟩
    exact done h kk w y1 y2
theorem okj3 {σ pre : SA} {S : List Nat} {h0 h : Hh} {P : Prop} {y1 y2 y3 : Option A} (e : σ = pre ++ [y1, y2, y3]) (k : Ke S h0 h) (p : P) : Ok (∃ y1 y2 y3 : Option A, σ = pre ++ [y1, y2, y3] ∧ Ke S h0 h ∧ P) := Ok.mk ⟨_, _, _, e, k, p⟩
theorem for_j3 {pg : Pg} {k : Nat} {xx : Xx} {σ : SA} {h0 : Hh} {D : En} {W : XS} {G : Gd} {t : Tg} {b : Ss} {xs : List A} {pre : SA} {y1 y2 y3 : Option A} (e : σ = pre ++ [y1, y2, y3]) (S : List Nat) (P : Nat → Hh → Prop) (p0 : P 0 h0) (hG : ∀ h, Ke S h0 h → gdOk G h)
    (step : ∀ i x h, xs[i]? = some x → Ke S h0 h → P i h → ∀ y1 y2 y3 : Option A, tgW t x (pre ++ [y1, y2, y3]) fun σ2 => wpSs pg (Γ pg k) xx b ⟨fun σ h => Ok (∃ y1 y2 y3 : Option A, σ = pre ++ [y1, y2, y3] ∧ Ke S h0 h ∧ P (i + 1) h), D.rt, D.nx, fun σ h => Ok (∃ y1 y2 y3 : Option A, σ = pre ++ [y1, y2, y3] ∧ Ke S h0 h ∧ P (i + 1) h)⟩ W σ2 h)
    (done : ∀ h, Ke S h0 h → P xs.length h → ∀ y1 y2 y3 : Option A, D.nx (pre ++ [y1, y2, y3]) h) : forA G (fun x D' σ' h' => tgW t x σ' fun σ2 => wpSs pg (Γ pg k) xx b D' W σ2 h') xs D σ h0 := by
  refine for_inv (fun i σ h => ∃ y1 y2 y3 : Option A, σ = pre ++ [y1, y2, y3] ∧ Ke S h0 h ∧ P i h) ?_ ?_ ?_ ?_
  · exact ⟨_, _, _, e, Ke.refl, p0⟩
  · rintro i σ h _ ⟨_, _, _, _, kk, _⟩
    exact hG h kk
  · rintro i x σ h e1 ⟨y1, y2, y3, rfl, kk, w⟩
    exact step i x h e1 kk w y1 y2 y3
  · rintro σ h ⟨y1, y2, y3, rfl, kk, w⟩
    exact done h kk w y1 y2 y3
theorem okj4 {σ pre : SA} {S : List Nat} {h0 h : Hh} {P : Prop} {y1 y2 y3 y4 : Option A} (e : σ = pre ++ [y1, y2, y3, y4]) (k : Ke S h0 h) (p : P) : Ok (∃ y1 y2 y3 y4 : Option A, σ = pre ++ [y1, y2, y3, y4] ∧ Ke S h0 h ∧ P) := Ok.mk ⟨_, _, _, _, e, k, p⟩
theorem for_j4 {pg : Pg} {k : Nat} {xx : Xx} {σ : SA} {h0 : Hh} {D : En} {W : XS} {G : Gd} {t : Tg} {b : Ss} {xs : List A} {pre : SA} {y1 y2 y3 y4 : Option A} (e : σ = pre ++ [y1, y2, y3, y4]) (S : List Nat) (P : Nat → Hh → Prop) (p0 : P 0 h0) (hG : ∀ h, Ke S h0 h → gdOk G h)
    (step : ∀ i x h, xs[i]? = some x → Ke S h0 h → P i h → ∀ y1 y2 y3 y4 : Option A, tgW t x (pre ++ [y1, y2, y3, y4]) fun σ2 => wpSs pg (Γ pg k) xx b ⟨fun σ h => Ok (∃ y1 y2 y3 y4 : Option A, σ = pre ++ [y1, y2, y3, y4] ∧ Ke S h0 h ∧ P (i + 1) h), D.rt, D.nx, fun σ h => Ok (∃ y1 y2 y3 y4 : Option A, σ = pre ++ [y1, y2, y3, y4] ∧ Ke S h0 h ∧ P (i + 1) h)⟩ W σ2 h)
    (done : ∀ h, Ke S h0 h → P xs.length h → ∀ y1 y2 y3 y4 : Option A, D.nx (pre ++ [y1, y2, y3, y4]) h) : forA G (fun x D' σ' h' => tgW t x σ' fun σ2 => wpSs pg (Γ pg k) xx b D' W σ2 h') xs D σ h0 := by
  refine for_inv (fun i σ h => ∃ y1 y2 y3 y4 : Option A, σ = pre ++ [y1, y2, y3, y4] ∧ Ke S h0 h ∧ P i h) ?_ ?_ ?_ ?_
  · exact ⟨_, _, _, _, e, Ke.refl, p0⟩
  · rintro i σ h _ ⟨_, _, _, _, _, kk, _⟩
    exact hG h kk
  · rintro i x σ h e1 ⟨y1, y2, y3, y4, rfl, kk, w⟩
    exact step i x h e1 kk w y1 y2 y3 y4
  · rintro σ h ⟨y1, y2, y3, y4, rfl, kk, w⟩
    exact done h kk w y1 y2 y3 y4
theorem okj5 {σ pre : SA} {S : List Nat} {h0 h : Hh} {P : Prop} {y1 y2 y3 y4 y5 : Option A} (e : σ = pre ++ [y1, y2, y3, y4, y5]) (k : Ke S h0 h) (p : P) : Ok (∃ y1 y2 y3 y4 y5 : Option A, σ = pre ++ [y1, y2, y3, y4, y5] ∧ Ke S h0 h ∧ P) := Ok.mk ⟨_, _, _, _, _, e, k, p⟩
theorem for_j5 {pg : Pg} {k : Nat} {xx : Xx} {σ : SA} {h0 : Hh} {D : En} {W : XS} {G : Gd} {t : Tg} {b : Ss} {xs : List A} {pre : SA} {y1 y2 y3 y4 y5 : Option A} (e : σ = pre ++ [y1, y2, y3, y4, y5]) (S : List Nat) (P : Nat → Hh → Prop) (p0 : P 0 h0) (hG : ∀ h, Ke S h0 h → gdOk G h)
    (step : ∀ i x h, xs[i]? = some x → Ke S h0 h → P i h → ∀ y1 y2 y3 y4 y5 : Option A, tgW t x (pre ++ [y1, y2, y3, y4, y5]) fun σ2 => wpSs pg (Γ pg k) xx b ⟨fun σ h => Ok (∃ y1 y2 y3 y4 y5 : Option A, σ = pre ++ [y1, y2, y3, y4, y5] ∧ Ke S h0 h ∧ P (i + 1) h), D.rt, D.nx, fun σ h => Ok (∃ y1 y2 y3 y4 y5 : Option A, σ = pre ++ [y1, y2, y3, y4, y5] ∧ Ke S h0 h ∧ P (i + 1) h)⟩ W σ2 h)
    (done : ∀ h, Ke S h0 h → P xs.length h → ∀ y1 y2 y3 y4 y5 : Option A, D.nx (pre ++ [y1, y2, y3, y4, y5]) h) : forA G (fun x D' σ' h' => tgW t x σ' fun σ2 => wpSs pg (Γ pg k) xx b D' W σ2 h') xs D σ h0 := by
  refine for_inv (fun i σ h => ∃ y1 y2 y3 y4 y5 : Option A, σ = pre ++ [y1, y2, y3, y4, y5] ∧ Ke S h0 h ∧ P i h) ?_ ?_ ?_ ?_
  · exact ⟨_, _, _, _, _, e, Ke.refl, p0⟩
  · rintro i σ h _ ⟨_, _, _, _, _, _, kk, _⟩
    exact hG h kk
  · rintro i x σ h e1 ⟨y1, y2, y3, y4, y5, rfl, kk, w⟩
    exact step i x h e1 kk w y1 y2 y3 y4 y5
  · rintro σ h ⟨y1, y2, y3, y4, y5, rfl, kk, w⟩
    exact done h kk w y1 y2 y3 y4 y5
theorem okj6 {σ pre : SA} {S : List Nat} {h0 h : Hh} {P : Prop} {y1 y2 y3 y4 y5 y6 : Option A} (e : σ = pre ++ [y1, y2, y3, y4, y5, y6]) (k : Ke S h0 h) (p : P) : Ok (∃ y1 y2 y3 y4 y5 y6 : Option A, σ = pre ++ [y1, y2, y3, y4, y5, y6] ∧ Ke S h0 h ∧ P) := Ok.mk ⟨_, _, _, _, _, _, e, k, p⟩
theorem for_j6 {pg : Pg} {k : Nat} {xx : Xx} {σ : SA} {h0 : Hh} {D : En} {W : XS} {G : Gd} {t : Tg} {b : Ss} {xs : List A} {pre : SA} {y1 y2 y3 y4 y5 y6 : Option A} (e : σ = pre ++ [y1, y2, y3, y4, y5, y6]) (S : List Nat) (P : Nat → Hh → Prop) (p0 : P 0 h0) (hG : ∀ h, Ke S h0 h → gdOk G h)
    (step : ∀ i x h, xs[i]? = some x → Ke S h0 h → P i h → ∀ y1 y2 y3 y4 y5 y6 : Option A, tgW t x (pre ++ [y1, y2, y3, y4, y5, y6]) fun σ2 => wpSs pg (Γ pg k) xx b ⟨fun σ h => Ok (∃ y1 y2 y3 y4 y5 y6 : Option A, σ = pre ++ [y1, y2, y3, y4, y5, y6] ∧ Ke S h0 h ∧ P (i + 1) h), D.rt, D.nx, fun σ h => Ok (∃ y1 y2 y3 y4 y5 y6 : Option A, σ = pre ++ [y1, y2, y3, y4, y5, y6] ∧ Ke S h0 h ∧ P (i + 1) h)⟩ W σ2 h)
    (done : ∀ h, Ke S h0 h → P xs.length h → ∀ y1 y2 y3 y4 y5 y6 : Option A, D.nx (pre ++ [y1, y2, y3, y4, y5, y6]) h) : forA G (fun x D' σ' h' => tgW t x σ' fun σ2 => wpSs pg (Γ pg k) xx b D' W σ2 h') xs D σ h0 := by
  refine for_inv (fun i σ h => ∃ y1 y2 y3 y4 y5 y6 : Option A, σ = pre ++ [y1, y2, y3, y4, y5, y6] ∧ Ke S h0 h ∧ P i h) ?_ ?_ ?_ ?_
  · exact ⟨_, _, _, _, _, _, e, Ke.refl, p0⟩
  · rintro i σ h _ ⟨_, _, _, _, _, _, _, kk, _⟩
    exact hG h kk
  · rintro i x σ h e1 ⟨y1, y2, y3, y4, y5, y6, rfl, kk, w⟩
    exact step i x h e1 kk w y1 y2 y3 y4 y5 y6
  · rintro σ h ⟨y1, y2, y3, y4, y5, y6, rfl, kk, w⟩
    exact done h kk w y1 y2 y3 y4 y5 y6
theorem okj7 {σ pre : SA} {S : List Nat} {h0 h : Hh} {P : Prop} {y1 y2 y3 y4 y5 y6 y7 : Option A} (e : σ = pre ++ [y1, y2, y3, y4, y5, y6, y7]) (k : Ke S h0 h) (p : P) : Ok (∃ y1 y2 y3 y4 y5 y6 y7 : Option A, σ = pre ++ [y1, y2, y3, y4, y5, y6, y7] ∧ Ke S h0 h ∧ P) := Ok.mk ⟨_, _, _, _, _, _, _, e, k, p⟩
theorem for_j7 {pg : Pg} {k : Nat} {xx : Xx} {σ : SA} {h0 : Hh} {D : En} {W : XS} {G : Gd} {t : Tg} {b : Ss} {xs : List A} {pre : SA} {y1 y2 y3 y4 y5 y6 y7 : Option A} (e : σ = pre ++ [y1, y2, y3, y4, y5, y6, y7]) (S : List Nat) (P : Nat → Hh → Prop) (p0 : P 0 h0) (hG : ∀ h, Ke S h0 h → gdOk G h)
    (step : ∀ i x h, xs[i]? = some x → Ke S h0 h → P i h → ∀ y1 y2 y3 y4 y5 y6 y7 : Option A, tgW t x (pre ++ [y1, y2, y3, y4, y5, y6, y7]) fun σ2 => wpSs pg (Γ pg k) xx b ⟨fun σ h => Ok (∃ y1 y2 y3 y4 y5 y6 y7 : Option A, σ = pre ++ [y1, y2, y3, y4, y5, y6, y7] ∧ Ke S h0 h ∧ P (i + 1) h), D.rt, D.nx, fun σ h => Ok (∃ y1 y2 y3 y4 y5 y6 y7 : Option A, σ = pre ++ [y1, y2, y3, y4, y5, y6, y7] ∧ Ke S h0 h ∧ P (i + 1) h)⟩ W σ2 h)
    (done : ∀ h, Ke S h0 h → P xs.length h → ∀ y1 y2 y3 y4 y5 y6 y7 : Option A, D.nx (pre ++ [y1, y2, y3, y4, y5, y6, y7]) h) : forA G (fun x D' σ' h' => tgW t x σ' fun σ2 => wpSs pg (Γ pg k) xx b D' W σ2 h') xs D σ h0 := by
  refine for_inv (fun i σ h => ∃ y1 y2 y3 y4 y5 y6 y7 : Option A, σ = pre ++ [y1, y2, y3, y4, y5, y6, y7] ∧ Ke S h0 h ∧ P i h) ?_ ?_ ?_ ?_
  · exact ⟨_, _, _, _, _, _, _, e, Ke.refl, p0⟩
  · rintro i σ h _ ⟨_, _, _, _, _, _, _, _, kk, _⟩
    exact hG h kk
  · rintro i x σ h e1 ⟨y1, y2, y3, y4, y5, y6, y7, rfl, kk, w⟩
    exact step i x h e1 kk w y1 y2 y3 y4 y5 y6 y7
  · rintro σ h ⟨y1, y2, y3, y4, y5, y6, y7, rfl, kk, w⟩
    exact done h kk w y1 y2 y3 y4 y5 y6 y7
theorem okj8 {σ pre : SA} {S : List Nat} {h0 h : Hh} {P : Prop} {y1 y2 y3 y4 y5 y6 y7 y8 : Option A} (e : σ = pre ++ [y1, y2, y3, y4, y5, y6, y7, y8]) (k : Ke S h0 h) (p : P) : Ok (∃ y1 y2 y3 y4 y5 y6 y7 y8 : Option A, σ = pre ++ [y1, y2, y3, y4, y5, y6, y7, y8] ∧ Ke S h0 h ∧ P) := Ok.mk ⟨_, _, _, _, _, _, _, _, e, k, p⟩
theorem for_j8 {pg : Pg} {k : Nat} {xx : Xx} {σ : SA} {h0 : Hh} {D : En} {W : XS} {G : Gd} {t : Tg} {b : Ss} {xs : List A} {pre : SA} {y1 y2 y3 y4 y5 y6 y7 y8 : Option A} (e : σ = pre ++ [y1, y2, y3, y4, y5, y6, y7, y8]) (S : List Nat) (P : Nat → Hh → Prop) (p0 : P 0 h0) (hG : ∀ h, Ke S h0 h → gdOk G h)
    (step : ∀ i x h, xs[i]? = some x → Ke S h0 h → P i h → ∀ y1 y2 y3 y4 y5 y6 y7 y8 : Option A, tgW t x (pre ++ [y1, y2, y3, y4, y5, y6, y7, y8]) fun σ2 => wpSs pg (Γ pg k) xx b ⟨fun σ h => Ok (∃ y1 y2 y3 y4 y5 y6 y7 y8 : Option A, σ = pre ++ [y1, y2, y3, y4, y5, y6, y7, y8] ∧ Ke S h0 h ∧ P (i + 1) h), D.rt, D.nx, fun σ h => Ok (∃ y1 y2 y3 y4 y5 y6 y7 y8 : Option A, σ = pre ++ [y1, y2, y3, y4, y5, y6, y7, y8] ∧ Ke S h0 h ∧ P (i + 1) h)⟩ W σ2 h)
    (done : ∀ h, Ke S h0 h → P xs.length h → ∀ y1 y2 y3 y4 y5 y6 y7 y8 : Option A, D.nx (pre ++ [y1, y2, y3, y4, y5, y6, y7, y8]) h) : forA G (fun x D' σ' h' => tgW t x σ' fun σ2 => wpSs pg (Γ pg k) xx b D' W σ2 h') xs D σ h0 := by
  refine for_inv (fun i σ h => ∃ y1 y2 y3 y4 y5 y6 y7 y8 : Option A, σ = pre ++ [y1, y2, y3, y4, y5, y6, y7, y8] ∧ Ke S h0 h ∧ P i h) ?_ ?_ ?_ ?_
  · exact ⟨_, _, _, _, _, _, _, _, e, Ke.refl, p0⟩
  · rintro i σ h _ ⟨_, _, _, _, _, _, _, _, _, kk, _⟩
    exact hG h kk
  · rintro i x σ h e1 ⟨y1, y2, y3, y4, y5, y6, y7, y8, rfl, kk, w⟩
    exact step i x h e1 kk w y1 y2 y3 y4 y5 y6 y7 y8
  · rintro σ h ⟨y1, y2, y3, y4, y5, y6, y7, y8, rfl, kk, w⟩
    exact done h kk w y1 y2 y3 y4 y5 y6 y7 y8
theorem okj9 {σ pre : SA} {S : List Nat} {h0 h : Hh} {P : Prop} {y1 y2 y3 y4 y5 y6 y7 y8 y9 : Option A} (e : σ = pre ++ [y1, y2, y3, y4, y5, y6, y7, y8, y9]) (k : Ke S h0 h) (p : P) : Ok (∃ y1 y2 y3 y4 y5 y6 y7 y8 y9 : Option A, σ = pre ++ [y1, y2, y3, y4, y5, y6, y7, y8, y9] ∧ Ke S h0 h ∧ P) := Ok.mk ⟨_, _, _, _, _, _, _, _, _, e, k, p⟩
theorem for_j9 {pg : Pg} {k : Nat} {xx : Xx} {σ : SA} {h0 : Hh} {D : En} {W : XS} {G : Gd} {t : Tg} {b : Ss} {xs : List A} {pre : SA} {y1 y2 y3 y4 y5 y6 y7 y8 y9 : Option A} (e : σ = pre ++ [y1, y2, y3, y4, y5, y6, y7, y8, y9]) (S : List Nat) (P : Nat → Hh → Prop) (p0 : P 0 h0) (hG : ∀ h, Ke S h0 h → gdOk G h)
    (step : ∀ i x h, xs[i]? = some x → Ke S h0 h → P i h → ∀ y1 y2 y3 y4 y5 y6 y7 y8 y9 : Option A, tgW t x (pre ++ [y1, y2, y3, y4, y5, y6, y7, y8, y9]) fun σ2 => wpSs pg (Γ pg k) xx b ⟨fun σ h => Ok (∃ y1 y2 y3 y4 y5 y6 y7 y8 y9 : Option A, σ = pre ++ [y1, y2, y3, y4, y5, y6, y7, y8, y9] ∧ Ke S h0 h ∧ P (i + 1) h), D.rt, D.nx, fun σ h => Ok (∃ y1 y2 y3 y4 y5 y6 y7 y8 y9 : Option A, σ = pre ++ [y1, y2, y3, y4, y5, y6, y7, y8, y9] ∧ Ke S h0 h ∧ P (i + 1) h)⟩ W σ2 h)
    (done : ∀ h, Ke S h0 h → P xs.length h → ∀ y1 y2 y3 y4 y5 y6 y7 y8 y9 : Option A, D.nx (pre ++ [y1, y2, y3, y4, y5, y6, y7, y8, y9]) h) : forA G (fun x D' σ' h' => tgW t x σ' fun σ2 => wpSs pg (Γ pg k) xx b D' W σ2 h') xs D σ h0 := by
  refine for_inv (fun i σ h => ∃ y1 y2 y3 y4 y5 y6 y7 y8 y9 : Option A, σ = pre ++ [y1, y2, y3, y4, y5, y6, y7, y8, y9] ∧ Ke S h0 h ∧ P i h) ?_ ?_ ?_ ?_
  · exact ⟨_, _, _, _, _, _, _, _, _, e, Ke.refl, p0⟩
  · rintro i σ h _ ⟨_, _, _, _, _, _, _, _, _, _, kk, _⟩
    exact hG h kk
  · rintro i x σ h e1 ⟨y1, y2, y3, y4, y5, y6, y7, y8, y9, rfl, kk, w⟩
    exact step i x h e1 kk w y1 y2 y3 y4 y5 y6 y7 y8 y9
  · rintro σ h ⟨y1, y2, y3, y4, y5, y6, y7, y8, y9, rfl, kk, w⟩
    exact done h kk w y1 y2 y3 y4 y5 y6 y7 y8 y9
theorem okj10 {σ pre : SA} {S : List Nat} {h0 h : Hh} {P : Prop} {y1 y2 y3 y4 y5 y6 y7 y8 y9 y10 : Option A} (e : σ = pre ++ [y1, y2, y3, y4, y5, y6, y7, y8, y9, y10]) (k : Ke S h0 h) (p : P) : Ok (∃ y1 y2 y3 y4 y5 y6 y7 y8 y9 y10 : Option A, σ = pre ++ [y1, y2, y3, y4, y5, y6, y7, y8, y9, y10] ∧ Ke S h0 h ∧ P) := Ok.mk ⟨_, _, _, _, _, _, _, _, _, _, e, k, p⟩
theorem for_j10 {pg : Pg} {k : Nat} {xx : Xx} {σ : SA} {h0 : Hh} {D : En} {W : XS} {G : Gd} {t : Tg} {b : Ss} {xs : List A} {pre : SA} {y1 y2 y3 y4 y5 y6 y7 y8 y9 y10 : Option A} (e : σ = pre ++ [y1, y2, y3, y4, y5, y6, y7, y8, y9, y10]) (S : List Nat) (P : Nat → Hh → Prop) (p0 : P 0 h0) (hG : ∀ h, Ke S h0 h → gdOk G h)
    (step : ∀ i x h, xs[i]? = some x → Ke S h0 h → P i h → ∀ y1 y2 y3 y4 y5 y6 y7 y8 y9 y10 : Option A, tgW t x (pre ++ [y1, y2, y3, y4, y5, y6, y7, y8, y9, y10]) fun σ2 => wpSs pg (Γ pg k) xx b ⟨fun σ h => Ok (∃ y1 y2 y3 y4 y5 y6 y7 y8 y9 y10 : Option A, σ = pre ++ [y1, y2, y3, y4, y5, y6, y7, y8, y9, y10] ∧ Ke S h0 h ∧ P (i + 1) h), D.rt, D.nx, fun σ h => Ok (∃ y1 y2 y3 y4 y5 y6 y7 y8 y9 y10 : Option A, σ = pre ++ [y1, y2, y3, y4, y5, y6, y7, y8, y9, y10] ∧ Ke S h0 h ∧ P (i + 1) h)⟩ W σ2 h)
    (done : ∀ h, Ke S h0 h → P xs.length h → ∀ y1 y2 y3 y4 y5 y6 y7 y8 y9 y10 : Option A, D.nx (pre ++ [y1, y2, y3, y4, y5, y6, y7, y8, y9, y10]) h) : forA G (fun x D' σ' h' => tgW t x σ' fun σ2 => wpSs pg (Γ pg k) xx b D' W σ2 h') xs D σ h0 := by
  refine for_inv (fun i σ h => ∃ y1 y2 y3 y4 y5 y6 y7 y8 y9 y10 : Option A, σ = pre ++ [y1, y2, y3, y4, y5, y6, y7, y8, y9, y10] ∧ Ke S h0 h ∧ P i h) ?_ ?_ ?_ ?_
  · exact ⟨_, _, _, _, _, _, _, _, _, _, e, Ke.refl, p0⟩
  · rintro i σ h _ ⟨_, _, _, _, _, _, _, _, _, _, _, kk, _⟩
    exact hG h kk
  · rintro i x σ h e1 ⟨y1, y2, y3, y4, y5, y6, y7, y8, y9, y10, rfl, kk, w⟩
    exact step i x h e1 kk w y1 y2 y3 y4 y5 y6 y7 y8 y9 y10
  · rintro σ h ⟨y1, y2, y3, y4, y5, y6, y7, y8, y9, y10, rfl, kk, w⟩
    exact done h kk w y1 y2 y3 y4 y5 y6 y7 y8 y9 y10
theorem okj11 {σ pre : SA} {S : List Nat} {h0 h : Hh} {P : Prop} {y1 y2 y3 y4 y5 y6 y7 y8 y9 y10 y11 : Option A} (e : σ = pre ++ [y1, y2, y3, y4, y5, y6, y7, y8, y9, y10, y11]) (k : Ke S h0 h) (p : P) : Ok (∃ y1 y2 y3 y4 y5 y6 y7 y8 y9 y10 y11 : Option A, σ = pre ++ [y1, y2, y3, y4, y5, y6, y7, y8, y9, y10, y11] ∧ Ke S h0 h ∧ P) := Ok.mk ⟨_, _, _, _, _, _, _, _, _, _, _, e, k, p⟩
theorem for_j11 {pg : Pg} {k : Nat} {xx : Xx} {σ : SA} {h0 : Hh} {D : En} {W : XS} {G : Gd} {t : Tg} {b : Ss} {xs : List A} {pre : SA} {y1 y2 y3 y4 y5 y6 y7 y8 y9 y10 y11 : Option A} (e : σ = pre ++ [y1, y2, y3, y4, y5, y6, y7, y8, y9, y10, y11]) (S : List Nat) (P : Nat → Hh → Prop) (p0 : P 0 h0) (hG : ∀ h, Ke S h0 h → gdOk G h)
    (step : ∀ i x h, xs[i]? = some x → Ke S h0 h → P i h → ∀ y1 y2 y3 y4 y5 y6 y7 y8 y9 y10 y11 : Option A, tgW t x (pre ++ [y1, y2, y3, y4, y5, y6, y7, y8, y9, y10, y11]) fun σ2 => wpSs pg (Γ pg k) xx b ⟨fun σ h => Ok (∃ y1 y2 y3 y4 y5 y6 y7 y8 y9 y10 y11 : Option A, σ = pre ++ [y1, y2, y3, y4, y5, y6, y7, y8, y9, y10, y11] ∧ Ke S h0 h ∧ P (i + 1) h), D.rt, D.nx, fun σ h => Ok (∃ y1 y2 y3 y4 y5 y6 y7 y8 y9 y10 y11 : Option A, σ = pre ++ [y1, y2, y3, y4, y5, y6, y7, y8, y9, y10, y11] ∧ Ke S h0 h ∧ P (i + 1) h)⟩ W σ2 h)
    (done : ∀ h, Ke S h0 h → P xs.length h → ∀ y1 y2 y3 y4 y5 y6 y7 y8 y9 y10 y11 : Option A, D.nx (pre ++ [y1, y2, y3, y4, y5, y6, y7, y8, y9, y10, y11]) h) : forA G (fun x D' σ' h' => tgW t x σ' fun σ2 => wpSs pg (Γ pg k) xx b D' W σ2 h') xs D σ h0 := by
  refine for_inv (fun i σ h => ∃ y1 y2 y3 y4 y5 y6 y7 y8 y9 y10 y11 : Option A, σ = pre ++ [y1, y2, y3, y4, y5, y6, y7, y8, y9, y10, y11] ∧ Ke S h0 h ∧ P i h) ?_ ?_ ?_ ?_
  · exact ⟨_, _, _, _, _, _, _, _, _, _, _, e, Ke.refl, p0⟩
  · rintro i σ h _ ⟨_, _, _, _, _, _, _, _, _, _, _, _, kk, _⟩
    exact hG h kk
  · rintro i x σ h e1 ⟨y1, y2, y3, y4, y5, y6, y7, y8, y9, y10, y11, rfl, kk, w⟩
    exact step i x h e1 kk w y1 y2 y3 y4 y5 y6 y7 y8 y9 y10 y11
  · rintro σ h ⟨y1, y2, y3, y4, y5, y6, y7, y8, y9, y10, y11, rfl, kk, w⟩
    exact done h kk w y1 y2 y3 y4 y5 y6 y7 y8 y9 y10 y11
theorem okj12 {σ pre : SA} {S : List Nat} {h0 h : Hh} {P : Prop} {y1 y2 y3 y4 y5 y6 y7 y8 y9 y10 y11 y12 : Option A} (e : σ = pre ++ [y1, y2, y3, y4, y5, y6, y7, y8, y9, y10, y11, y12]) (k : Ke S h0 h) (p : P) : Ok (∃ y1 y2 y3 y4 y5 y6 y7 y8 y9 y10 y11 y12 : Option A, σ = pre ++ [y1, y2, y3, y4, y5, y6, y7, y8, y9, y10, y11, y12] ∧ Ke S h0 h ∧ P) := Ok.mk ⟨_, _, _, _, _, _, _, _, _, _, _, _, e, k, p⟩
theorem for_j12 {pg : Pg} {k : Nat} {xx : Xx} {σ : SA} {h0 : Hh} {D : En} {W : XS} {G : Gd} {t : Tg} {b : Ss} {xs : List A} {pre : SA} {y1 y2 y3 y4 y5 y6 y7 y8 y9 y10 y11 y12 : Option A} (e : σ = pre ++ [y1, y2, y3, y4, y5, y6, y7, y8, y9, y10, y11, y12]) (S : List Nat) (P : Nat → Hh → Prop) (p0 : P 0 h0) (hG : ∀ h, Ke S h0 h → gdOk G h)
    (step : ∀ i x h, xs[i]? = some x → Ke S h0 h → P i h → ∀ y1 y2 y3 y4 y5 y6 y7 y8 y9 y10 y11 y12 : Option A, tgW t x (pre ++ [y1, y2, y3, y4, y5, y6, y7, y8, y9, y10, y11, y12]) fun σ2 => wpSs pg (Γ pg k) xx b ⟨fun σ h => Ok (∃ y1 y2 y3 y4 y5 y6 y7 y8 y9 y10 y11 y12 : Option A, σ = pre ++ [y1, y2, y3, y4, y5, y6, y7, y8, y9, y10, y11, y12] ∧ Ke S h0 h ∧ P (i + 1) h), D.rt, D.nx, fun σ h => Ok (∃ y1 y2 y3 y4 y5 y6 y7 y8 y9 y10 y11 y12 : Option A, σ = pre ++ [y1, y2, y3, y4, y5, y6, y7, y8, y9, y10, y11, y12] ∧ Ke S h0 h ∧ P (i + 1) h)⟩ W σ2 h)
    (done : ∀ h, Ke S h0 h → P xs.length h → ∀ y1 y2 y3 y4 y5 y6 y7 y8 y9 y10 y11 y12 : Option A, D.nx (pre ++ [y1, y2, y3, y4, y5, y6, y7, y8, y9, y10, y11, y12]) h) : forA G (fun x D' σ' h' => tgW t x σ' fun σ2 => wpSs pg (Γ pg k) xx b D' W σ2 h') xs D σ h0 := by
  refine for_inv (fun i σ h => ∃ y1 y2 y3 y4 y5 y6 y7 y8 y9 y10 y11 y12 : Option A, σ = pre ++ [y1, y2, y3, y4, y5, y6, y7, y8, y9, y10, y11, y12] ∧ Ke S h0 h ∧ P i h) ?_ ?_ ?_ ?_
  · exact ⟨_, _, _, _, _, _, _, _, _, _, _, _, e, Ke.refl, p0⟩
  · rintro i σ h _ ⟨_, _, _, _, _, _, _, _, _, _, _, _, _, kk, _⟩
    exact hG h kk
  · rintro i x σ h e1 ⟨y1, y2, y3, y4, y5, y6, y7, y8, y9, y10, y11, y12, rfl, kk, w⟩
    exact step i x h e1 kk w y1 y2 y3 y4 y5 y6 y7 y8 y9 y10 y11 y12
  · rintro σ h ⟨y1, y2, y3, y4, y5, y6, y7, y8, y9, y10, y11, y12, rfl, kk, w⟩
    exact done h kk w y1 y2 y3 y4 y5 y6 y7 y8 y9 y10 y11 y12
end Z

/-! ### the pure side: lists of a frame's keys, truths, texts walked -/
namespace Z
open PySem L2
theorem sr_str {h : Hh} {S : Gd → List A → Prop} {z : PySem.Str} (q : S [] (z.cps.toList.map fun c => A.str ⟨#[c]⟩)) : srcW (.str z) h S := q
theorem f_lstK' {h : Hh} {Q : QV} {xs : List A} (q : new h (.lst xs) Q) : bltW .list [.kt xs] h Q := q
theorem f_lenSqG {α : Type} {g : α → A} {h : Hh} {Q : QV} {v : A} {l : List α} (s : Sq h v (l.map g)) (q : Q (.int l.length) h) : bltW .len [v] h Q := f_lenSq s (by rw [List.length_map]; exact q)
/-- a comprehension of truths -/
theorem lc_mapB {α : Type} {g : α → A} {l : List α} {pg : Pg} {k : Nat} {xx : Xx} {σ : SA} {vs : List Nat} {tg : Tg} {c elt : E} {G : Gd} {Q : Hh → Prop} {h0 : Hh} (p : α → Bool) (hl : l.length ≤ 2 ^ 20) (hG : ∀ h', Ke [] h0 h' → gdOk G h')
    (step : ∀ a h R, a ∈ l → Ke [] h0 h → h0.length < h.length → (∀ h', Ke [] h h' → R (some (.bl (p a))) h') → lcSt pg (Γ pg k) xx σ vs tg c elt (g a) h R)
    (done : ∀ h, Ke [] h0 h → h0.length < h.length → h[h0.length]? = some (.lst ((l.map p).map A.bl)) → Q h) :
    lcA G h0.length (lcSt pg (Γ pg k) xx σ vs tg c elt) Q (l.map g) (h0 ++ [.lst []]) :=
  lc_fmK (fun a => some (.bl (p a))) hl hG step fun h a b e => done h a b (by rw [List.filterMap_eq_map'] at e; rw [List.map_map]; exact e)
/-- a comprehension of things, each by a function -/
theorem lc_mapK {α β : Type} {g : α → A} {g2 : β → A} {l : List α} {pg : Pg} {k : Nat} {xx : Xx} {σ : SA} {vs : List Nat} {tg : Tg} {c elt : E} {G : Gd} {Q : Hh → Prop} {h0 : Hh} (f : α → β) (hl : l.length ≤ 2 ^ 20) (hG : ∀ h', Ke [] h0 h' → gdOk G h')
    (step : ∀ a h R, a ∈ l → Ke [] h0 h → h0.length < h.length → (∀ h', Ke [] h h' → R (some (g2 (f a))) h') → lcSt pg (Γ pg k) xx σ vs tg c elt (g a) h R)
    (done : ∀ h, Ke [] h0 h → h0.length < h.length → h[h0.length]? = some (.lst ((l.map f).map g2)) → Q h) :
    lcA G h0.length (lcSt pg (Γ pg k) xx σ vs tg c elt) Q (l.map g) (h0 ++ [.lst []]) :=
  lc_fmK (fun a => some (g2 (f a))) hl hG step fun h a b e => done h a b (by rw [List.filterMap_eq_map'] at e; rw [List.map_map]; exact e)
theorem fm_if {α β : Type} {p : α → Bool} {f : α → β} : ∀ l : List α, (l.filterMap fun a => if p a = true then some (f a) else none) = (l.filter p).map f
  | [] => rfl
  | a :: r => by
    rw [List.filterMap_cons, List.filter_cons, fm_if r]
    by_cases z : p a = true
    · simp [z]
    · simp [z]
/-- a comprehension with a test -/
theorem lc_fil {α β : Type} {g : α → A} {g2 : β → A} {l : List α} {pg : Pg} {k : Nat} {xx : Xx} {σ : SA} {vs : List Nat} {tg : Tg} {c elt : E} {G : Gd} {Q : Hh → Prop} {h0 : Hh} (p : α → Bool) (f : α → β) (hl : l.length ≤ 2 ^ 20) (hG : ∀ h', Ke [] h0 h' → gdOk G h')
    (step : ∀ a h R, a ∈ l → Ke [] h0 h → h0.length < h.length → (p a = true → ∀ h', Ke [] h h' → R (some (g2 (f a))) h') → (p a = false → ∀ h', Ke [] h h' → R none h') → lcSt pg (Γ pg k) xx σ vs tg c elt (g a) h R)
    (done : ∀ h, Ke [] h0 h → h0.length < h.length → h[h0.length]? = some (.lst (((l.filter p).map f).map g2)) → Q h) :
    lcA G h0.length (lcSt pg (Γ pg k) xx σ vs tg c elt) Q (l.map g) (h0 ++ [.lst []]) :=
  lc_fmK (fun a => if p a = true then some (g2 (f a)) else none) hl hG (fun a h R m k1 l1 r => step a h R m k1 l1 (fun z h' k' => by have := r h' k'; rwa [if_pos z] at this) (fun z h' k' => by have := r h' k'; rwa [if_neg (by rw [z]; exact Bool.false_ne_true)] at this))
    fun h a b e => done h a b (by rw [fm_if] at e; rw [List.map_map]; exact e)
section
variable {h : Hh} {Q : QV} {n : Nat} {R : Bool → Prop}
theorem f_allM {α : Type} {p : α → Bool} {l : List α} (e : h[n]? = some (.lst ((l.map p).map A.bl))) (q : Q (.bl (l.all p)) h) : bltW .all [.ref n] h Q := f_all e (by rw [List.all_map]; exact q)
theorem f_anyM {α : Type} {p : α → Bool} {l : List α} (e : h[n]? = some (.lst ((l.map p).map A.bl))) (q : Q (.bl (l.any p)) h) : bltW .any [.ref n] h Q := f_any e (by rw [List.any_map]; exact q)
theorem c_inKS {ss : List PySem.Str} {z : PySem.Str} (p : ∀ s ∈ ss, Sg s) (pz : Sg z) (q : R (decide (z ∈ ss))) : cmpW .In (.str z) (.kt (ss.map A.str)) h R :=
  ⟨_, _, .str z, enc_str.dal ss, (ly_str (e := 64) pz).shaped, (ly_list ((enc_str.lyl p).mono (by decide))).shaped, by rw [enc_str.any]; exact q⟩
theorem c_niKS {ss : List PySem.Str} {z : PySem.Str} (p : ∀ s ∈ ss, Sg s) (pz : Sg z) (q : R (!decide (z ∈ ss))) : cmpW .NotIn (.str z) (.kt (ss.map A.str)) h R :=
  ⟨_, _, .str z, enc_str.dal ss, (ly_str (e := 64) pz).shaped, (ly_list ((enc_str.lyl p).mono (by decide))).shaped, by rw [enc_str.any]; exact q⟩
theorem c_inLS {ss : List PySem.Str} {z : PySem.Str} (e : h[n]? = some (.lst (ss.map A.str))) (p : ∀ s ∈ ss, Sg s) (pz : Sg z) (q : R (decide (z ∈ ss))) : cmpW .In (.str z) (.ref n) h R := c_inG enc_str e p pz q
theorem c_niLS {ss : List PySem.Str} {z : PySem.Str} (e : h[n]? = some (.lst (ss.map A.str))) (p : ∀ s ∈ ss, Sg s) (pz : Sg z) (q : R (!decide (z ∈ ss))) : cmpW .NotIn (.str z) (.ref n) h R := c_niG enc_str e p pz q
end
/-- a list, or a tuple that was made of one -/
inductive Lane (h : Hh) : A → List A → Prop
  | lst {p : Nat} {xs : List A} (e : h[p]? = some (.lst xs)) : Lane h (.ref p) xs
  | kt {xs : List A} : Lane h (.kt xs) xs
section
variable {pg : Pg} {h : Hh} {Q : QV} {v : A} {xs : List A}
theorem sr_lane {R : Gd → List A → Prop} (s : Lane h v xs) (q : ∀ G, (∀ S h', Ke S h h' → (∀ p, v = .ref p → p ∉ S) → gdOk G h') → R G xs) : srcW v h R := by
  cases s with
  | lst e => exact sr_ref e (q _ fun S h' k c => gd1 (k.get (c _ rfl) e))
  | kt => exact sr_kt (q _ fun _ _ _ _ => gd0)
theorem is_lane {cs : List String} (s : Lane h v xs) (b1 : cs.any (isB pg "list") = true) (b2 : cs.any (isB pg "tuple") = true) (q : Q (.bl true) h) : isiW pg cs v h Q := by
  cases s with
  | lst e => exact is_T (kd_ref e) b1 q
  | kt => exact is_T rfl b2 q
theorem f_lenLane {α : Type} {g : α → A} {l : List α} (s : Lane h v (l.map g)) (q : Q (.int l.length) h) : bltW .len [v] h Q := by
  cases s with
  | lst e => exact f_lenLG e q
  | kt => exact f_lenKG q
theorem f_tupLane (s : Lane h v xs) (q : Q (.kt xs) h) : bltW .tuple [v] h Q := by
  cases s with
  | lst e => exact f_tupLK e q
  | kt => exact f_tupK q
theorem bx_lane {ss : List PySem.Str} (s : Lane h v (ss.map A.str)) (l : ss.length ≤ 1000) (nd : ss.Nodup) (q : Q (.int ss.length) h) : bxW .lenset [v] h Q := by
  have e : (dcnt ss.reverse) = ss.length := by rw [(dcnt_nd ss.reverse).mpr (List.pairwise_reverse.mpr (nd.imp fun h e => h e.symm)), List.length_reverse]
  have w : ∃ xs : List PySem.Str, sqW v h (xs.map A.str) ∧ xs.length ≤ 1000 ∧ Q (.int (dcnt xs.reverse)) h := ⟨ss, by cases s with | lst e => exact e | kt => rfl, l, by rw [e]; exact q⟩
  cases s with
  | lst _ => exact w
  | kt => exact w
theorem Lane.ke {S : List Nat} {h' : Hh} (k : Ke S h h') (c : ∀ p, v = .ref p → p ∉ S) (s : Lane h v xs) : Lane h' v xs := by
  cases s with
  | lst e => exact .lst (k.get (c _ rfl) e)
  | kt => exact .kt
theorem Lane.ke0 {h' : Hh} (k : Ke [] h h') (s : Lane h v xs) : Lane h' v xs := s.ke k fun _ _ => nm0
theorem Lane.ke0' {h' : Hh} (s : Lane h v xs) (k : Ke [] h h') : Lane h' v xs := s.ke0 k
theorem Sq.ke0 {h' : Hh} (k : Ke [] h h') (s : Sq h v xs) : Sq h' v xs := s.ke k fun _ _ => nm0
end
end Z

/-! ### the pure side: more -/
namespace Z
open PySem L2
theorem tg_pr {i j : Nat} {r : Int × Int} {σ : SA} {R : SA → Prop} (q : R ((σ.set i (some (.int r.1))).set j (some (.int r.2)))) : tgW (.tp [.nm i, .nm j]) (prA r) σ R := ⟨_, rfl, _, _, rfl, _, _, rfl, rfl, q⟩
section
variable {pg : Pg} {h : Hh}
theorem fs_in' {n : Nat} {C f : String} {fs gs : List (String × A)} {v : A} {R : Hh → Prop} (e : h[n]? = some (.ins C fs)) (c : (pg.fl C).contains f = true) (l : fs.length < 1000) (e2 : putA f v fs = gs) (q : ∀ h', Ke [n] h h' → h'.length = h.length → h'[n]? = some (.ins C gs) → R h') : fsW pg (.ref n) f v h R := fs_in e c l (e2 ▸ q)
end
end Z

/-! ### the pure side: loops where some variables are any  -/
namespace Z
open PySem L2
/-- other values at these places -/
def fj (js : List Nat) (σ : SA) (ys : SA) : SA := (js.zip ys).foldl (fun τ p => τ.set p.1 p.2) σ
theorem for_k1 {pg : Pg} {k : Nat} {xx : Xx} {σ : SA} {h0 : Hh} {D : En} {W : XS} {G : Gd} {t : Tg} {b : Ss} {xs : List A} {y1 : Option A} (js : List Nat) (e : σ = fj js σ [y1]) (S : List Nat) (P : Nat → Hh → Prop) (p0 : P 0 h0) (hG : ∀ h, Ke S h0 h → gdOk G h)
    (step : ∀ i x h, xs[i]? = some x → Ke S h0 h → P i h → ∀ y1 : Option A, tgW t x (fj js σ [y1]) fun σ2 => wpSs pg (Γ pg k) xx b ⟨fun τ h => Ok (∃ y1 : Option A, τ = fj js σ [y1] ∧ Ke S h0 h ∧ P (i + 1) h), D.rt, D.nx, fun τ h => Ok (∃ y1 : Option A, τ = fj js σ [y1] ∧ Ke S h0 h ∧ P (i + 1) h)⟩ W σ2 h)
    (done : ∀ h, Ke S h0 h → P xs.length h → ∀ y1 : Option A, D.nx (fj js σ [y1]) h) : forA G (fun x D' σ' h' => tgW t x σ' fun σ2 => wpSs pg (Γ pg k) xx b D' W σ2 h') xs D σ h0 := by
  refine for_inv (fun i τ h => ∃ y1 : Option A, τ = fj js σ [y1] ∧ Ke S h0 h ∧ P i h) ?_ ?_ ?_ ?_
  · exact ⟨_, e, Ke.refl, p0⟩
  · rintro i τ h _ ⟨_, _, kk, _⟩
    exact hG h kk
  · rintro i x τ h e1 ⟨y1, rfl, kk, w⟩
    exact step i x h e1 kk w y1
  · rintro τ h ⟨y1, rfl, kk, w⟩
    exact done h kk w y1
theorem for_k2 {pg : Pg} {k : Nat} {xx : Xx} {σ : SA} {h0 : Hh} {D : En} {W : XS} {G : Gd} {t : Tg} {b : Ss} {xs : List A} {y1 y2 : Option A} (js : List Nat) (e : σ = fj js σ [y1, y2]) (S : List Nat) (P : Nat → Hh → Prop) (p0 : P 0 h0) (hG : ∀ h, Ke S h0 h → gdOk G h)
    (step : ∀ i x h, xs[i]? = some x → Ke S h0 h → P i h → ∀ y1 y2 : Option A, tgW t x (fj js σ [y1, y2]) fun σ2 => wpSs pg (Γ pg k) xx b ⟨fun τ h => Ok (∃ y1 y2 : Option A, τ = fj js σ [y1, y2] ∧ Ke S h0 h ∧ P (i + 1) h), D.rt, D.nx, fun τ h => Ok (∃ y1 y2 : Option A, τ = fj js σ [y1, y2] ∧ Ke S h0 h ∧ P (i + 1) h)⟩ W σ2 h)
    (done : ∀ h, Ke S h0 h → P xs.length h → ∀ y1 y2 : Option A, D.nx (fj js σ [y1, y2]) h) : forA G (fun x D' σ' h' => tgW t x σ' fun σ2 => wpSs pg (Γ pg k) xx b D' W σ2 h') xs D σ h0 := by
  refine for_inv (fun i τ h => ∃ y1 y2 : Option A, τ = fj js σ [y1, y2] ∧ Ke S h0 h ∧ P i h) ?_ ?_ ?_ ?_
  · exact ⟨_, _, e, Ke.refl, p0⟩
  · rintro i τ h _ ⟨_, _, _, kk, _⟩
    exact hG h kk
  · rintro i x τ h e1 ⟨y1, y2, rfl, kk, w⟩
    exact step i x h e1 kk w y1 y2
  · rintro τ h ⟨y1, y2, rfl, kk, w⟩
    exact done h kk w y1 y2
theorem for_k3 {pg : Pg} {k : Nat} {xx : Xx} {σ : SA} {h0 : Hh} {D : En} {W : XS} {G : Gd} {t : Tg} {b : Ss} {xs : List A} {y1 y2 y3 : Option A} (js : List Nat) (e : σ = fj js σ [y1, y2, y3]) (S : List Nat) (P : Nat → Hh → Prop) (p0 : P 0 h0) (hG : ∀ h, Ke S h0 h → gdOk G h)
    (step : ∀ i x h, xs[i]? = some x → Ke S h0 h → P i h → ∀ y1 y2 y3 : Option A, tgW t x (fj js σ [y1, y2, y3]) fun σ2 => wpSs pg (Γ pg k) xx b ⟨fun τ h => Ok (∃ y1 y2 y3 : Option A, τ = fj js σ [y1, y2, y3] ∧ Ke S h0 h ∧ P (i + 1) h), D.rt, D.nx, fun τ h => Ok (∃ y1 y2 y3 : Option A, τ = fj js σ [y1, y2, y3] ∧ Ke S h0 h ∧ P (i + 1) h)⟩ W σ2 h)
    (done : ∀ h, Ke S h0 h → P xs.length h → ∀ y1 y2 y3 : Option A, D.nx (fj js σ [y1, y2, y3]) h) : forA G (fun x D' σ' h' => tgW t x σ' fun σ2 => wpSs pg (Γ pg k) xx b D' W σ2 h') xs D σ h0 := by
  refine for_inv (fun i τ h => ∃ y1 y2 y3 : Option A, τ = fj js σ [y1, y2, y3] ∧ Ke S h0 h ∧ P i h) ?_ ?_ ?_ ?_
  · exact ⟨_, _, _, e, Ke.refl, p0⟩
  · rintro i τ h _ ⟨_, _, _, _, kk, _⟩
    exact hG h kk
  · rintro i x τ h e1 ⟨y1, y2, y3, rfl, kk, w⟩
    exact step i x h e1 kk w y1 y2 y3
  · rintro τ h ⟨y1, y2, y3, rfl, kk, w⟩
    exact done h kk w y1 y2 y3
theorem for_k4 {pg : Pg} {k : Nat} {xx : Xx} {σ : SA} {h0 : Hh} {D : En} {W : XS} {G : Gd} {t : Tg} {b : Ss} {xs : List A} {y1 y2 y3 y4 : Option A} (js : List Nat) (e : σ = fj js σ [y1, y2, y3, y4]) (S : List Nat) (P : Nat → Hh → Prop) (p0 : P 0 h0) (hG : ∀ h, Ke S h0 h → gdOk G h)
    (step : ∀ i x h, xs[i]? = some x → Ke S h0 h → P i h → ∀ y1 y2 y3 y4 : Option A, tgW t x (fj js σ [y1, y2, y3, y4]) fun σ2 => wpSs pg (Γ pg k) xx b ⟨fun τ h => Ok (∃ y1 y2 y3 y4 : Option A, τ = fj js σ [y1, y2, y3, y4] ∧ Ke S h0 h ∧ P (i + 1) h), D.rt, D.nx, fun τ h => Ok (∃ y1 y2 y3 y4 : Option A, τ = fj js σ [y1, y2, y3, y4] ∧ Ke S h0 h ∧ P (i + 1) h)⟩ W σ2 h)
    (done : ∀ h, Ke S h0 h → P xs.length h → ∀ y1 y2 y3 y4 : Option A, D.nx (fj js σ [y1, y2, y3, y4]) h) : forA G (fun x D' σ' h' => tgW t x σ' fun σ2 => wpSs pg (Γ pg k) xx b D' W σ2 h') xs D σ h0 := by
  refine for_inv (fun i τ h => ∃ y1 y2 y3 y4 : Option A, τ = fj js σ [y1, y2, y3, y4] ∧ Ke S h0 h ∧ P i h) ?_ ?_ ?_ ?_
  · exact ⟨_, _, _, _, e, Ke.refl, p0⟩
  · rintro i τ h _ ⟨_, _, _, _, _, kk, _⟩
    exact hG h kk
  · rintro i x τ h e1 ⟨y1, y2, y3, y4, rfl, kk, w⟩
    exact step i x h e1 kk w y1 y2 y3 y4
  · rintro τ h ⟨y1, y2, y3, y4, rfl, kk, w⟩
    exact done h kk w y1 y2 y3 y4
theorem for_k5 {pg : Pg} {k : Nat} {xx : Xx} {σ : SA} {h0 : Hh} {D : En} {W : XS} {G : Gd} {t : Tg} {b : Ss} {xs : List A} {y1 y2 y3 y4 y5 : Option A} (js : List Nat) (e : σ = fj js σ [y1, y2, y3, y4, y5]) (S : List Nat) (P : Nat → Hh → Prop) (p0 : P 0 h0) (hG : ∀ h, Ke S h0 h → gdOk G h)
    (step : ∀ i x h, xs[i]? = some x → Ke S h0 h → P i h → ∀ y1 y2 y3 y4 y5 : Option A, tgW t x (fj js σ [y1, y2, y3, y4, y5]) fun σ2 => wpSs pg (Γ pg k) xx b ⟨fun τ h => Ok (∃ y1 y2 y3 y4 y5 : Option A, τ = fj js σ [y1, y2, y3, y4, y5] ∧ Ke S h0 h ∧ P (i + 1) h), D.rt, D.nx, fun τ h => Ok (∃ y1 y2 y3 y4 y5 : Option A, τ = fj js σ [y1, y2, y3, y4, y5] ∧ Ke S h0 h ∧ P (i + 1) h)⟩ W σ2 h)
    (done : ∀ h, Ke S h0 h → P xs.length h → ∀ y1 y2 y3 y4 y5 : Option A, D.nx (fj js σ [y1, y2, y3, y4, y5]) h) : forA G (fun x D' σ' h' => tgW t x σ' fun σ2 => wpSs pg (Γ pg k) xx b D' W σ2 h') xs D σ h0 := by
  refine for_inv (fun i τ h => ∃ y1 y2 y3 y4 y5 : Option A, τ = fj js σ [y1, y2, y3, y4, y5] ∧ Ke S h0 h ∧ P i h) ?_ ?_ ?_ ?_
  · exact ⟨_, _, _, _, _, e, Ke.refl, p0⟩
  · rintro i τ h _ ⟨_, _, _, _, _, _, kk, _⟩
    exact hG h kk
  · rintro i x τ h e1 ⟨y1, y2, y3, y4, y5, rfl, kk, w⟩
    exact step i x h e1 kk w y1 y2 y3 y4 y5
  · rintro τ h ⟨y1, y2, y3, y4, y5, rfl, kk, w⟩
    exact done h kk w y1 y2 y3 y4 y5
theorem for_k6 {pg : Pg} {k : Nat} {xx : Xx} {σ : SA} {h0 : Hh} {D : En} {W : XS} {G : Gd} {t : Tg} {b : Ss} {xs : List A} {y1 y2 y3 y4 y5 y6 : Option A} (js : List Nat) (e : σ = fj js σ [y1, y2, y3, y4, y5, y6]) (S : List Nat) (P : Nat → Hh → Prop) (p0 : P 0 h0) (hG : ∀ h, Ke S h0 h → gdOk G h)
    (step : ∀ i x h, xs[i]? = some x → Ke S h0 h → P i h → ∀ y1 y2 y3 y4 y5 y6 : Option A, tgW t x (fj js σ [y1, y2, y3, y4, y5, y6]) fun σ2 => wpSs pg (Γ pg k) xx b ⟨fun τ h => Ok (∃ y1 y2 y3 y4 y5 y6 : Option A, τ = fj js σ [y1, y2, y3, y4, y5, y6] ∧ Ke S h0 h ∧ P (i + 1) h), D.rt, D.nx, fun τ h => Ok (∃ y1 y2 y3 y4 y5 y6 : Option A, τ = fj js σ [y1, y2, y3, y4, y5, y6] ∧ Ke S h0 h ∧ P (i + 1) h)⟩ W σ2 h)
    (done : ∀ h, Ke S h0 h → P xs.length h → ∀ y1 y2 y3 y4 y5 y6 : Option A, D.nx (fj js σ [y1, y2, y3, y4, y5, y6]) h) : forA G (fun x D' σ' h' => tgW t x σ' fun σ2 => wpSs pg (Γ pg k) xx b D' W σ2 h') xs D σ h0 := by
  refine for_inv (fun i τ h => ∃ y1 y2 y3 y4 y5 y6 : Option A, τ = fj js σ [y1, y2, y3, y4, y5, y6] ∧ Ke S h0 h ∧ P i h) ?_ ?_ ?_ ?_
  · exact ⟨_, _, _, _, _, _, e, Ke.refl, p0⟩
  · rintro i τ h _ ⟨_, _, _, _, _, _, _, kk, _⟩
    exact hG h kk
  · rintro i x τ h e1 ⟨y1, y2, y3, y4, y5, y6, rfl, kk, w⟩
    exact step i x h e1 kk w y1 y2 y3 y4 y5 y6
  · rintro τ h ⟨y1, y2, y3, y4, y5, y6, rfl, kk, w⟩
    exact done h kk w y1 y2 y3 y4 y5 y6
theorem for_k7 {pg : Pg} {k : Nat} {xx : Xx} {σ : SA} {h0 : Hh} {D : En} {W : XS} {G : Gd} {t : Tg} {b : Ss} {xs : List A} {y1 y2 y3 y4 y5 y6 y7 : Option A} (js : List Nat) (e : σ = fj js σ [y1, y2, y3, y4, y5, y6, y7]) (S : List Nat) (P : Nat → Hh → Prop) (p0 : P 0 h0) (hG : ∀ h, Ke S h0 h → gdOk G h)
    (step : ∀ i x h, xs[i]? = some x → Ke S h0 h → P i h → ∀ y1 y2 y3 y4 y5 y6 y7 : Option A, tgW t x (fj js σ [y1, y2, y3, y4, y5, y6, y7]) fun σ2 => wpSs pg (Γ pg k) xx b ⟨fun τ h => Ok (∃ y1 y2 y3 y4 y5 y6 y7 : Option A, τ = fj js σ [y1, y2, y3, y4, y5, y6, y7] ∧ Ke S h0 h ∧ P (i + 1) h), D.rt, D.nx, fun τ h => Ok (∃ y1 y2 y3 y4 y5 y6 y7 : Option A, τ = fj js σ [y1, y2, y3, y4, y5, y6, y7] ∧ Ke S h0 h ∧ P (i + 1) h)⟩ W σ2 h)
    (done : ∀ h, Ke S h0 h → P xs.length h → ∀ y1 y2 y3 y4 y5 y6 y7 : Option A, D.nx (fj js σ [y1, y2, y3, y4, y5, y6, y7]) h) : forA G (fun x D' σ' h' => tgW t x σ' fun σ2 => wpSs pg (Γ pg k) xx b D' W σ2 h') xs D σ h0 := by
  refine for_inv (fun i τ h => ∃ y1 y2 y3 y4 y5 y6 y7 : Option A, τ = fj js σ [y1, y2, y3, y4, y5, y6, y7] ∧ Ke S h0 h ∧ P i h) ?_ ?_ ?_ ?_
  · exact ⟨_, _, _, _, _, _, _, e, Ke.refl, p0⟩
  · rintro i τ h _ ⟨_, _, _, _, _, _, _, _, kk, _⟩
    exact hG h kk
  · rintro i x τ h e1 ⟨y1, y2, y3, y4, y5, y6, y7, rfl, kk, w⟩
    exact step i x h e1 kk w y1 y2 y3 y4 y5 y6 y7
  · rintro τ h ⟨y1, y2, y3, y4, y5, y6, y7, rfl, kk, w⟩
    exact done h kk w y1 y2 y3 y4 y5 y6 y7
theorem for_k8 {pg : Pg} {k : Nat} {xx : Xx} {σ : SA} {h0 : Hh} {D : En} {W : XS} {G : Gd} {t : Tg} {b : Ss} {xs : List A} {y1 y2 y3 y4 y5 y6 y7 y8 : Option A} (js : List Nat) (e : σ = fj js σ [y1, y2, y3, y4, y5, y6, y7, y8]) (S : List Nat) (P : Nat → Hh → Prop) (p0 : P 0 h0) (hG : ∀ h, Ke S h0 h → gdOk G h)
    (step : ∀ i x h, xs[i]? = some x → Ke S h0 h → P i h → ∀ y1 y2 y3 y4 y5 y6 y7 y8 : Option A, tgW t x (fj js σ [y1, y2, y3, y4, y5, y6, y7, y8]) fun σ2 => wpSs pg (Γ pg k) xx b ⟨fun τ h => Ok (∃ y1 y2 y3 y4 y5 y6 y7 y8 : Option A, τ = fj js σ [y1, y2, y3, y4, y5, y6, y7, y8] ∧ Ke S h0 h ∧ P (i + 1) h), D.rt, D.nx, fun τ h => Ok (∃ y1 y2 y3 y4 y5 y6 y7 y8 : Option A, τ = fj js σ [y1, y2, y3, y4, y5, y6, y7, y8] ∧ Ke S h0 h ∧ P (i + 1) h)⟩ W σ2 h)
    (done : ∀ h, Ke S h0 h → P xs.length h → ∀ y1 y2 y3 y4 y5 y6 y7 y8 : Option A, D.nx (fj js σ [y1, y2, y3, y4, y5, y6, y7, y8]) h) : forA G (fun x D' σ' h' => tgW t x σ' fun σ2 => wpSs pg (Γ pg k) xx b D' W σ2 h') xs D σ h0 := by
  refine for_inv (fun i τ h => ∃ y1 y2 y3 y4 y5 y6 y7 y8 : Option A, τ = fj js σ [y1, y2, y3, y4, y5, y6, y7, y8] ∧ Ke S h0 h ∧ P i h) ?_ ?_ ?_ ?_
  · exact ⟨_, _, _, _, _, _, _, _, e, Ke.refl, p0⟩
  · rintro i τ h _ ⟨_, _, _, _, _, _, _, _, _, kk, _⟩
    exact hG h kk
  · rintro i x τ h e1 ⟨y1, y2, y3, y4, y5, y6, y7, y8, rfl, kk, w⟩
    exact step i x h e1 kk w y1 y2 y3 y4 y5 y6 y7 y8
  · rintro τ h ⟨y1, y2, y3, y4, y5, y6, y7, y8, rfl, kk, w⟩
    exact done h kk w y1 y2 y3 y4 y5 y6 y7 y8
theorem for_k9 {pg : Pg} {k : Nat} {xx : Xx} {σ : SA} {h0 : Hh} {D : En} {W : XS} {G : Gd} {t : Tg} {b : Ss} {xs : List A} {y1 y2 y3 y4 y5 y6 y7 y8 y9 : Option A} (js : List Nat) (e : σ = fj js σ [y1, y2, y3, y4, y5, y6, y7, y8, y9]) (S : List Nat) (P : Nat → Hh → Prop) (p0 : P 0 h0) (hG : ∀ h, Ke S h0 h → gdOk G h)
    (step : ∀ i x h, xs[i]? = some x → Ke S h0 h → P i h → ∀ y1 y2 y3 y4 y5 y6 y7 y8 y9 : Option A, tgW t x (fj js σ [y1, y2, y3, y4, y5, y6, y7, y8, y9]) fun σ2 => wpSs pg (Γ pg k) xx b ⟨fun τ h => Ok (∃ y1 y2 y3 y4 y5 y6 y7 y8 y9 : Option A, τ = fj js σ [y1, y2, y3, y4, y5, y6, y7, y8, y9] ∧ Ke S h0 h ∧ P (i + 1) h), D.rt, D.nx, fun τ h => Ok (∃ y1 y2 y3 y4 y5 y6 y7 y8 y9 : Option A, τ = fj js σ [y1, y2, y3, y4, y5, y6, y7, y8, y9] ∧ Ke S h0 h ∧ P (i + 1) h)⟩ W σ2 h)
    (done : ∀ h, Ke S h0 h → P xs.length h → ∀ y1 y2 y3 y4 y5 y6 y7 y8 y9 : Option A, D.nx (fj js σ [y1, y2, y3, y4, y5, y6, y7, y8, y9]) h) : forA G (fun x D' σ' h' => tgW t x σ' fun σ2 => wpSs pg (Γ pg k) xx b D' W σ2 h') xs D σ h0 := by
  refine for_inv (fun i τ h => ∃ y1 y2 y3 y4 y5 y6 y7 y8 y9 : Option A, τ = fj js σ [y1, y2, y3, y4, y5, y6, y7, y8, y9] ∧ Ke S h0 h ∧ P i h) ?_ ?_ ?_ ?_
  · exact ⟨_, _, _, _, _, _, _, _, _, e, Ke.refl, p0⟩
  · rintro i τ h _ ⟨_, _, _, _, _, _, _, _, _, _, kk, _⟩
    exact hG h kk
  · rintro i x τ h e1 ⟨y1, y2, y3, y4, y5, y6, y7, y8, y9, rfl, kk, w⟩
    exact step i x h e1 kk w y1 y2 y3 y4 y5 y6 y7 y8 y9
  · rintro τ h ⟨y1, y2, y3, y4, y5, y6, y7, y8, y9, rfl, kk, w⟩
    exact done h kk w y1 y2 y3 y4 y5 y6 y7 y8 y9
theorem for_k10 {pg : Pg} {k : Nat} {xx : Xx} {σ : SA} {h0 : Hh} {D : En} {W : XS} {G : Gd} {t : Tg} {b : Ss} {xs : List A} {y1 y2 y3 y4 y5 y6 y7 y8 y9 y10 : Option A} (js : List Nat) (e : σ = fj js σ [y1, y2, y3, y4, y5, y6, y7, y8, y9, y10]) (S : List Nat) (P : Nat → Hh → Prop) (p0 : P 0 h0) (hG : ∀ h, Ke S h0 h → gdOk G h)
    (step : ∀ i x h, xs[i]? = some x → Ke S h0 h → P i h → ∀ y1 y2 y3 y4 y5 y6 y7 y8 y9 y10 : Option A, tgW t x (fj js σ [y1, y2, y3, y4, y5, y6, y7, y8, y9, y10]) fun σ2 => wpSs pg (Γ pg k) xx b ⟨fun τ h => Ok (∃ y1 y2 y3 y4 y5 y6 y7 y8 y9 y10 : Option A, τ = fj js σ [y1, y2, y3, y4, y5, y6, y7, y8, y9, y10] ∧ Ke S h0 h ∧ P (i + 1) h), D.rt, D.nx, fun τ h => Ok (∃ y1 y2 y3 y4 y5 y6 y7 y8 y9 y10 : Option A, τ = fj js σ [y1, y2, y3, y4, y5, y6, y7, y8, y9, y10] ∧ Ke S h0 h ∧ P (i + 1) h)⟩ W σ2 h)
    (done : ∀ h, Ke S h0 h → P xs.length h → ∀ y1 y2 y3 y4 y5 y6 y7 y8 y9 y10 : Option A, D.nx (fj js σ [y1, y2, y3, y4, y5, y6, y7, y8, y9, y10]) h) : forA G (fun x D' σ' h' => tgW t x σ' fun σ2 => wpSs pg (Γ pg k) xx b D' W σ2 h') xs D σ h0 := by
  refine for_inv (fun i τ h => ∃ y1 y2 y3 y4 y5 y6 y7 y8 y9 y10 : Option A, τ = fj js σ [y1, y2, y3, y4, y5, y6, y7, y8, y9, y10] ∧ Ke S h0 h ∧ P i h) ?_ ?_ ?_ ?_
  · exact ⟨_, _, _, _, _, _, _, _, _, _, e, Ke.refl, p0⟩
  · rintro i τ h _ ⟨_, _, _, _, _, _, _, _, _, _, _, kk, _⟩
    exact hG h kk
  · rintro i x τ h e1 ⟨y1, y2, y3, y4, y5, y6, y7, y8, y9, y10, rfl, kk, w⟩
    exact step i x h e1 kk w y1 y2 y3 y4 y5 y6 y7 y8 y9 y10
  · rintro τ h ⟨y1, y2, y3, y4, y5, y6, y7, y8, y9, y10, rfl, kk, w⟩
    exact done h kk w y1 y2 y3 y4 y5 y6 y7 y8 y9 y10
theorem for_k11 {pg : Pg} {k : Nat} {xx : Xx} {σ : SA} {h0 : Hh} {D : En} {W : XS} {G : Gd} {t : Tg} {b : Ss} {xs : List A} {y1 y2 y3 y4 y5 y6 y7 y8 y9 y10 y11 : Option A} (js : List Nat) (e : σ = fj js σ [y1, y2, y3, y4, y5, y6, y7, y8, y9, y10, y11]) (S : List Nat) (P : Nat → Hh → Prop) (p0 : P 0 h0) (hG : ∀ h, Ke S h0 h → gdOk G h)
    (step : ∀ i x h, xs[i]? = some x → Ke S h0 h → P i h → ∀ y1 y2 y3 y4 y5 y6 y7 y8 y9 y10 y11 : Option A, tgW t x (fj js σ [y1, y2, y3, y4, y5, y6, y7, y8, y9, y10, y11]) fun σ2 => wpSs pg (Γ pg k) xx b ⟨fun τ h => Ok (∃ y1 y2 y3 y4 y5 y6 y7 y8 y9 y10 y11 : Option A, τ = fj js σ [y1, y2, y3, y4, y5, y6, y7, y8, y9, y10, y11] ∧ Ke S h0 h ∧ P (i + 1) h), D.rt, D.nx, fun τ h => Ok (∃ y1 y2 y3 y4 y5 y6 y7 y8 y9 y10 y11 : Option A, τ = fj js σ [y1, y2, y3, y4, y5, y6, y7, y8, y9, y10, y11] ∧ Ke S h0 h ∧ P (i + 1) h)⟩ W σ2 h)
    (done : ∀ h, Ke S h0 h → P xs.length h → ∀ y1 y2 y3 y4 y5 y6 y7 y8 y9 y10 y11 : Option A, D.nx (fj js σ [y1, y2, y3, y4, y5, y6, y7, y8, y9, y10, y11]) h) : forA G (fun x D' σ' h' => tgW t x σ' fun σ2 => wpSs pg (Γ pg k) xx b D' W σ2 h') xs D σ h0 := by
  refine for_inv (fun i τ h => ∃ y1 y2 y3 y4 y5 y6 y7 y8 y9 y10 y11 : Option A, τ = fj js σ [y1, y2, y3, y4, y5, y6, y7, y8, y9, y10, y11] ∧ Ke S h0 h ∧ P i h) ?_ ?_ ?_ ?_
  · exact ⟨_, _, _, _, _, _, _, _, _, _, _, e, Ke.refl, p0⟩
  · rintro i τ h _ ⟨_, _, _, _, _, _, _, _, _, _, _, _, kk, _⟩
    exact hG h kk
  · rintro i x τ h e1 ⟨y1, y2, y3, y4, y5, y6, y7, y8, y9, y10, y11, rfl, kk, w⟩
    exact step i x h e1 kk w y1 y2 y3 y4 y5 y6 y7 y8 y9 y10 y11
  · rintro τ h ⟨y1, y2, y3, y4, y5, y6, y7, y8, y9, y10, y11, rfl, kk, w⟩
    exact done h kk w y1 y2 y3 y4 y5 y6 y7 y8 y9 y10 y11
theorem for_k12 {pg : Pg} {k : Nat} {xx : Xx} {σ : SA} {h0 : Hh} {D : En} {W : XS} {G : Gd} {t : Tg} {b : Ss} {xs : List A} {y1 y2 y3 y4 y5 y6 y7 y8 y9 y10 y11 y12 : Option A} (js : List Nat) (e : σ = fj js σ [y1, y2, y3, y4, y5, y6, y7, y8, y9, y10, y11, y12]) (S : List Nat) (P : Nat → Hh → Prop) (p0 : P 0 h0) (hG : ∀ h, Ke S h0 h → gdOk G h)
    (step : ∀ i x h, xs[i]? = some x → Ke S h0 h → P i h → ∀ y1 y2 y3 y4 y5 y6 y7 y8 y9 y10 y11 y12 : Option A, tgW t x (fj js σ [y1, y2, y3, y4, y5, y6, y7, y8, y9, y10, y11, y12]) fun σ2 => wpSs pg (Γ pg k) xx b ⟨fun τ h => Ok (∃ y1 y2 y3 y4 y5 y6 y7 y8 y9 y10 y11 y12 : Option A, τ = fj js σ [y1, y2, y3, y4, y5, y6, y7, y8, y9, y10, y11, y12] ∧ Ke S h0 h ∧ P (i + 1) h), D.rt, D.nx, fun τ h => Ok (∃ y1 y2 y3 y4 y5 y6 y7 y8 y9 y10 y11 y12 : Option A, τ = fj js σ [y1, y2, y3, y4, y5, y6, y7, y8, y9, y10, y11, y12] ∧ Ke S h0 h ∧ P (i + 1) h)⟩ W σ2 h)
    (done : ∀ h, Ke S h0 h → P xs.length h → ∀ y1 y2 y3 y4 y5 y6 y7 y8 y9 y10 y11 y12 : Option A, D.nx (fj js σ [y1, y2, y3, y4, y5, y6, y7, y8, y9, y10, y11, y12]) h) : forA G (fun x D' σ' h' => tgW t x σ' fun σ2 => wpSs pg (Γ pg k) xx b D' W σ2 h') xs D σ h0 := by
  refine for_inv (fun i τ h => ∃ y1 y2 y3 y4 y5 y6 y7 y8 y9 y10 y11 y12 : Option A, τ = fj js σ [y1, y2, y3, y4, y5, y6, y7, y8, y9, y10, y11, y12] ∧ Ke S h0 h ∧ P i h) ?_ ?_ ?_ ?_
  · exact ⟨_, _, _, _, _, _, _, _, _, _, _, _, e, Ke.refl, p0⟩
  · rintro i τ h _ ⟨_, _, _, _, _, _, _, _, _, _, _, _, _, kk, _⟩
    exact hG h kk
  · rintro i x τ h e1 ⟨y1, y2, y3, y4, y5, y6, y7, y8, y9, y10, y11, y12, rfl, kk, w⟩
    exact step i x h e1 kk w y1 y2 y3 y4 y5 y6 y7 y8 y9 y10 y11 y12
  · rintro τ h ⟨y1, y2, y3, y4, y5, y6, y7, y8, y9, y10, y11, y12, rfl, kk, w⟩
    exact done h kk w y1 y2 y3 y4 y5 y6 y7 y8 y9 y10 y11 y12
theorem for_k13 {pg : Pg} {k : Nat} {xx : Xx} {σ : SA} {h0 : Hh} {D : En} {W : XS} {G : Gd} {t : Tg} {b : Ss} {xs : List A} {y1 y2 y3 y4 y5 y6 y7 y8 y9 y10 y11 y12 y13 : Option A} (js : List Nat) (e : σ = fj js σ [y1, y2, y3, y4, y5, y6, y7, y8, y9, y10, y11, y12, y13]) (S : List Nat) (P : Nat → Hh → Prop) (p0 : P 0 h0) (hG : ∀ h, Ke S h0 h → gdOk G h)
    (step : ∀ i x h, xs[i]? = some x → Ke S h0 h → P i h → ∀ y1 y2 y3 y4 y5 y6 y7 y8 y9 y10 y11 y12 y13 : Option A, tgW t x (fj js σ [y1, y2, y3, y4, y5, y6, y7, y8, y9, y10, y11, y12, y13]) fun σ2 => wpSs pg (Γ pg k) xx b ⟨fun τ h => Ok (∃ y1 y2 y3 y4 y5 y6 y7 y8 y9 y10 y11 y12 y13 : Option A, τ = fj js σ [y1, y2, y3, y4, y5, y6, y7, y8, y9, y10, y11, y12, y13] ∧ Ke S h0 h ∧ P (i + 1) h), D.rt, D.nx, fun τ h => Ok (∃ y1 y2 y3 y4 y5 y6 y7 y8 y9 y10 y11 y12 y13 : Option A, τ = fj js σ [y1, y2, y3, y4, y5, y6, y7, y8, y9, y10, y11, y12, y13] ∧ Ke S h0 h ∧ P (i + 1) h)⟩ W σ2 h)
    (done : ∀ h, Ke S h0 h → P xs.length h → ∀ y1 y2 y3 y4 y5 y6 y7 y8 y9 y10 y11 y12 y13 : Option A, D.nx (fj js σ [y1, y2, y3, y4, y5, y6, y7, y8, y9, y10, y11, y12, y13]) h) : forA G (fun x D' σ' h' => tgW t x σ' fun σ2 => wpSs pg (Γ pg k) xx b D' W σ2 h') xs D σ h0 := by
  refine for_inv (fun i τ h => ∃ y1 y2 y3 y4 y5 y6 y7 y8 y9 y10 y11 y12 y13 : Option A, τ = fj js σ [y1, y2, y3, y4, y5, y6, y7, y8, y9, y10, y11, y12, y13] ∧ Ke S h0 h ∧ P i h) ?_ ?_ ?_ ?_
  · exact ⟨_, _, _, _, _, _, _, _, _, _, _, _, _, e, Ke.refl, p0⟩
  · rintro i τ h _ ⟨_, _, _, _, _, _, _, _, _, _, _, _, _, _, kk, _⟩
    exact hG h kk
  · rintro i x τ h e1 ⟨y1, y2, y3, y4, y5, y6, y7, y8, y9, y10, y11, y12, y13, rfl, kk, w⟩
    exact step i x h e1 kk w y1 y2 y3 y4 y5 y6 y7 y8 y9 y10 y11 y12 y13
  · rintro τ h ⟨y1, y2, y3, y4, y5, y6, y7, y8, y9, y10, y11, y12, y13, rfl, kk, w⟩
    exact done h kk w y1 y2 y3 y4 y5 y6 y7 y8 y9 y10 y11 y12 y13
end Z

/-! ### the pure side: cuts between statements -/
namespace Z
open PySem L2
section
variable {pg : Pg} {k : Nat} {xx : Xx} {σ : SA} {h : Hh} {D : En} {W : XS}
theorem q_cut {s : S} {r : Ss} (J : SA → Hh → Prop) (a : wpS pg (Γ pg k) xx s ⟨fun σ h => Ok (J σ h), D.rt, D.bk, D.ct⟩ W σ h) (b : ∀ σ h, J σ h → wpSs pg (Γ pg k) xx r D W σ h) : wpSs pg (Γ pg k) xx (.cons s r) D W σ h :=
  wpS_mono (Γ_mono pg k) s (D := ⟨fun σ h => Ok (J σ h), D.rt, D.bk, D.ct⟩) ⟨fun σ' h' z => b σ' h' z.ok, fun _ _ z => z, fun _ _ z => z, fun _ _ z => z⟩ (fun _ _ _ _ _ z => z) a
/-- a variable's new value, by what is known of it -/
theorem q_setJ {i : Nat} {e : E} {r : Ss} (J : A → Hh → Prop) (a : wpE pg (Γ pg k) xx e σ h (fun v h1 => Ok (J v h1)) (fun b c fs h1 => W b c fs σ h1)) (b : ∀ v h1, J v h1 → wpSs pg (Γ pg k) xx r D W (σ.set i (some v)) h1) : wpSs pg (Γ pg k) xx (.cons (.set i e) r) D W σ h :=
  wpE_mono (Γ_mono pg k) e (fun v h1 z => b v h1 z.ok) (fun _ _ _ _ z => z) a
theorem wpE_cut {e : E} {Q : QV} {Y : XQ} (J : A → Hh → Prop) (a : wpE pg (Γ pg k) xx e σ h (fun v h1 => Ok (J v h1)) Y) (b : ∀ v h1, J v h1 → Q v h1) : wpE pg (Γ pg k) xx e σ h Q Y :=
  wpE_mono (Γ_mono pg k) e (fun v h1 z => b v h1 z.ok) (fun _ _ _ _ z => z) a
end
end Z

/-! ### the pure side: states written out -/
namespace Z
open PySem L2
theorem sn0 {a0 : Option A} {r : SA} {v : Option A} : List.set (a0 :: r) 0 v = v :: r := rfl
theorem sn1 {a0 a1 : Option A} {r : SA} {v : Option A} : List.set (a0 :: a1 :: r) 1 v = a0 :: v :: r := rfl
theorem sn2 {a0 a1 a2 : Option A} {r : SA} {v : Option A} : List.set (a0 :: a1 :: a2 :: r) 2 v = a0 :: a1 :: v :: r := rfl
theorem sn3 {a0 a1 a2 a3 : Option A} {r : SA} {v : Option A} : List.set (a0 :: a1 :: a2 :: a3 :: r) 3 v = a0 :: a1 :: a2 :: v :: r := rfl
theorem sn4 {a0 a1 a2 a3 a4 : Option A} {r : SA} {v : Option A} : List.set (a0 :: a1 :: a2 :: a3 :: a4 :: r) 4 v = a0 :: a1 :: a2 :: a3 :: v :: r := rfl
theorem sn5 {a0 a1 a2 a3 a4 a5 : Option A} {r : SA} {v : Option A} : List.set (a0 :: a1 :: a2 :: a3 :: a4 :: a5 :: r) 5 v = a0 :: a1 :: a2 :: a3 :: a4 :: v :: r := rfl
theorem sn6 {a0 a1 a2 a3 a4 a5 a6 : Option A} {r : SA} {v : Option A} : List.set (a0 :: a1 :: a2 :: a3 :: a4 :: a5 :: a6 :: r) 6 v = a0 :: a1 :: a2 :: a3 :: a4 :: a5 :: v :: r := rfl
theorem sn7 {a0 a1 a2 a3 a4 a5 a6 a7 : Option A} {r : SA} {v : Option A} : List.set (a0 :: a1 :: a2 :: a3 :: a4 :: a5 :: a6 :: a7 :: r) 7 v = a0 :: a1 :: a2 :: a3 :: a4 :: a5 :: a6 :: v :: r := rfl
theorem sn8 {a0 a1 a2 a3 a4 a5 a6 a7 a8 : Option A} {r : SA} {v : Option A} : List.set (a0 :: a1 :: a2 :: a3 :: a4 :: a5 :: a6 :: a7 :: a8 :: r) 8 v = a0 :: a1 :: a2 :: a3 :: a4 :: a5 :: a6 :: a7 :: v :: r := rfl
theorem sn9 {a0 a1 a2 a3 a4 a5 a6 a7 a8 a9 : Option A} {r : SA} {v : Option A} : List.set (a0 :: a1 :: a2 :: a3 :: a4 :: a5 :: a6 :: a7 :: a8 :: a9 :: r) 9 v = a0 :: a1 :: a2 :: a3 :: a4 :: a5 :: a6 :: a7 :: a8 :: v :: r := rfl
theorem sn10 {a0 a1 a2 a3 a4 a5 a6 a7 a8 a9 a10 : Option A} {r : SA} {v : Option A} : List.set (a0 :: a1 :: a2 :: a3 :: a4 :: a5 :: a6 :: a7 :: a8 :: a9 :: a10 :: r) 10 v = a0 :: a1 :: a2 :: a3 :: a4 :: a5 :: a6 :: a7 :: a8 :: a9 :: v :: r := rfl
theorem sn11 {a0 a1 a2 a3 a4 a5 a6 a7 a8 a9 a10 a11 : Option A} {r : SA} {v : Option A} : List.set (a0 :: a1 :: a2 :: a3 :: a4 :: a5 :: a6 :: a7 :: a8 :: a9 :: a10 :: a11 :: r) 11 v = a0 :: a1 :: a2 :: a3 :: a4 :: a5 :: a6 :: a7 :: a8 :: a9 :: a10 :: v :: r := rfl
theorem sn12 {a0 a1 a2 a3 a4 a5 a6 a7 a8 a9 a10 a11 a12 : Option A} {r : SA} {v : Option A} : List.set (a0 :: a1 :: a2 :: a3 :: a4 :: a5 :: a6 :: a7 :: a8 :: a9 :: a10 :: a11 :: a12 :: r) 12 v = a0 :: a1 :: a2 :: a3 :: a4 :: a5 :: a6 :: a7 :: a8 :: a9 :: a10 :: a11 :: v :: r := rfl
theorem sn13 {a0 a1 a2 a3 a4 a5 a6 a7 a8 a9 a10 a11 a12 a13 : Option A} {r : SA} {v : Option A} : List.set (a0 :: a1 :: a2 :: a3 :: a4 :: a5 :: a6 :: a7 :: a8 :: a9 :: a10 :: a11 :: a12 :: a13 :: r) 13 v = a0 :: a1 :: a2 :: a3 :: a4 :: a5 :: a6 :: a7 :: a8 :: a9 :: a10 :: a11 :: a12 :: v :: r := rfl
theorem sn14 {a0 a1 a2 a3 a4 a5 a6 a7 a8 a9 a10 a11 a12 a13 a14 : Option A} {r : SA} {v : Option A} : List.set (a0 :: a1 :: a2 :: a3 :: a4 :: a5 :: a6 :: a7 :: a8 :: a9 :: a10 :: a11 :: a12 :: a13 :: a14 :: r) 14 v = a0 :: a1 :: a2 :: a3 :: a4 :: a5 :: a6 :: a7 :: a8 :: a9 :: a10 :: a11 :: a12 :: a13 :: v :: r := rfl
theorem sn15 {a0 a1 a2 a3 a4 a5 a6 a7 a8 a9 a10 a11 a12 a13 a14 a15 : Option A} {r : SA} {v : Option A} : List.set (a0 :: a1 :: a2 :: a3 :: a4 :: a5 :: a6 :: a7 :: a8 :: a9 :: a10 :: a11 :: a12 :: a13 :: a14 :: a15 :: r) 15 v = a0 :: a1 :: a2 :: a3 :: a4 :: a5 :: a6 :: a7 :: a8 :: a9 :: a10 :: a11 :: a12 :: a13 :: a14 :: v :: r := rfl
theorem sn16 {a0 a1 a2 a3 a4 a5 a6 a7 a8 a9 a10 a11 a12 a13 a14 a15 a16 : Option A} {r : SA} {v : Option A} : List.set (a0 :: a1 :: a2 :: a3 :: a4 :: a5 :: a6 :: a7 :: a8 :: a9 :: a10 :: a11 :: a12 :: a13 :: a14 :: a15 :: a16 :: r) 16 v = a0 :: a1 :: a2 :: a3 :: a4 :: a5 :: a6 :: a7 :: a8 :: a9 :: a10 :: a11 :: a12 :: a13 :: a14 :: a15 :: v :: r := rfl
theorem sn17 {a0 a1 a2 a3 a4 a5 a6 a7 a8 a9 a10 a11 a12 a13 a14 a15 a16 a17 : Option A} {r : SA} {v : Option A} : List.set (a0 :: a1 :: a2 :: a3 :: a4 :: a5 :: a6 :: a7 :: a8 :: a9 :: a10 :: a11 :: a12 :: a13 :: a14 :: a15 :: a16 :: a17 :: r) 17 v = a0 :: a1 :: a2 :: a3 :: a4 :: a5 :: a6 :: a7 :: a8 :: a9 :: a10 :: a11 :: a12 :: a13 :: a14 :: a15 :: a16 :: v :: r := rfl
theorem sn18 {a0 a1 a2 a3 a4 a5 a6 a7 a8 a9 a10 a11 a12 a13 a14 a15 a16 a17 a18 : Option A} {r : SA} {v : Option A} : List.set (a0 :: a1 :: a2 :: a3 :: a4 :: a5 :: a6 :: a7 :: a8 :: a9 :: a10 :: a11 :: a12 :: a13 :: a14 :: a15 :: a16 :: a17 :: a18 :: r) 18 v = a0 :: a1 :: a2 :: a3 :: a4 :: a5 :: a6 :: a7 :: a8 :: a9 :: a10 :: a11 :: a12 :: a13 :: a14 :: a15 :: a16 :: a17 :: v :: r := rfl
theorem sn19 {a0 a1 a2 a3 a4 a5 a6 a7 a8 a9 a10 a11 a12 a13 a14 a15 a16 a17 a18 a19 : Option A} {r : SA} {v : Option A} : List.set (a0 :: a1 :: a2 :: a3 :: a4 :: a5 :: a6 :: a7 :: a8 :: a9 :: a10 :: a11 :: a12 :: a13 :: a14 :: a15 :: a16 :: a17 :: a18 :: a19 :: r) 19 v = a0 :: a1 :: a2 :: a3 :: a4 :: a5 :: a6 :: a7 :: a8 :: a9 :: a10 :: a11 :: a12 :: a13 :: a14 :: a15 :: a16 :: a17 :: a18 :: v :: r := rfl
theorem sn20 {a0 a1 a2 a3 a4 a5 a6 a7 a8 a9 a10 a11 a12 a13 a14 a15 a16 a17 a18 a19 a20 : Option A} {r : SA} {v : Option A} : List.set (a0 :: a1 :: a2 :: a3 :: a4 :: a5 :: a6 :: a7 :: a8 :: a9 :: a10 :: a11 :: a12 :: a13 :: a14 :: a15 :: a16 :: a17 :: a18 :: a19 :: a20 :: r) 20 v = a0 :: a1 :: a2 :: a3 :: a4 :: a5 :: a6 :: a7 :: a8 :: a9 :: a10 :: a11 :: a12 :: a13 :: a14 :: a15 :: a16 :: a17 :: a18 :: a19 :: v :: r := rfl
theorem sn21 {a0 a1 a2 a3 a4 a5 a6 a7 a8 a9 a10 a11 a12 a13 a14 a15 a16 a17 a18 a19 a20 a21 : Option A} {r : SA} {v : Option A} : List.set (a0 :: a1 :: a2 :: a3 :: a4 :: a5 :: a6 :: a7 :: a8 :: a9 :: a10 :: a11 :: a12 :: a13 :: a14 :: a15 :: a16 :: a17 :: a18 :: a19 :: a20 :: a21 :: r) 21 v = a0 :: a1 :: a2 :: a3 :: a4 :: a5 :: a6 :: a7 :: a8 :: a9 :: a10 :: a11 :: a12 :: a13 :: a14 :: a15 :: a16 :: a17 :: a18 :: a19 :: a20 :: v :: r := rfl
theorem sn22 {a0 a1 a2 a3 a4 a5 a6 a7 a8 a9 a10 a11 a12 a13 a14 a15 a16 a17 a18 a19 a20 a21 a22 : Option A} {r : SA} {v : Option A} : List.set (a0 :: a1 :: a2 :: a3 :: a4 :: a5 :: a6 :: a7 :: a8 :: a9 :: a10 :: a11 :: a12 :: a13 :: a14 :: a15 :: a16 :: a17 :: a18 :: a19 :: a20 :: a21 :: a22 :: r) 22 v = a0 :: a1 :: a2 :: a3 :: a4 :: a5 :: a6 :: a7 :: a8 :: a9 :: a10 :: a11 :: a12 :: a13 :: a14 :: a15 :: a16 :: a17 :: a18 :: a19 :: a20 :: a21 :: v :: r := rfl
theorem sn23 {a0 a1 a2 a3 a4 a5 a6 a7 a8 a9 a10 a11 a12 a13 a14 a15 a16 a17 a18 a19 a20 a21 a22 a23 : Option A} {r : SA} {v : Option A} : List.set (a0 :: a1 :: a2 :: a3 :: a4 :: a5 :: a6 :: a7 :: a8 :: a9 :: a10 :: a11 :: a12 :: a13 :: a14 :: a15 :: a16 :: a17 :: a18 :: a19 :: a20 :: a21 :: a22 :: a23 :: r) 23 v = a0 :: a1 :: a2 :: a3 :: a4 :: a5 :: a6 :: a7 :: a8 :: a9 :: a10 :: a11 :: a12 :: a13 :: a14 :: a15 :: a16 :: a17 :: a18 :: a19 :: a20 :: a21 :: a22 :: v :: r := rfl
theorem sn24 {a0 a1 a2 a3 a4 a5 a6 a7 a8 a9 a10 a11 a12 a13 a14 a15 a16 a17 a18 a19 a20 a21 a22 a23 a24 : Option A} {r : SA} {v : Option A} : List.set (a0 :: a1 :: a2 :: a3 :: a4 :: a5 :: a6 :: a7 :: a8 :: a9 :: a10 :: a11 :: a12 :: a13 :: a14 :: a15 :: a16 :: a17 :: a18 :: a19 :: a20 :: a21 :: a22 :: a23 :: a24 :: r) 24 v = a0 :: a1 :: a2 :: a3 :: a4 :: a5 :: a6 :: a7 :: a8 :: a9 :: a10 :: a11 :: a12 :: a13 :: a14 :: a15 :: a16 :: a17 :: a18 :: a19 :: a20 :: a21 :: a22 :: a23 :: v :: r := rfl
theorem sn25 {a0 a1 a2 a3 a4 a5 a6 a7 a8 a9 a10 a11 a12 a13 a14 a15 a16 a17 a18 a19 a20 a21 a22 a23 a24 a25 : Option A} {r : SA} {v : Option A} : List.set (a0 :: a1 :: a2 :: a3 :: a4 :: a5 :: a6 :: a7 :: a8 :: a9 :: a10 :: a11 :: a12 :: a13 :: a14 :: a15 :: a16 :: a17 :: a18 :: a19 :: a20 :: a21 :: a22 :: a23 :: a24 :: a25 :: r) 25 v = a0 :: a1 :: a2 :: a3 :: a4 :: a5 :: a6 :: a7 :: a8 :: a9 :: a10 :: a11 :: a12 :: a13 :: a14 :: a15 :: a16 :: a17 :: a18 :: a19 :: a20 :: a21 :: a22 :: a23 :: a24 :: v :: r := rfl
theorem sn26 {a0 a1 a2 a3 a4 a5 a6 a7 a8 a9 a10 a11 a12 a13 a14 a15 a16 a17 a18 a19 a20 a21 a22 a23 a24 a25 a26 : Option A} {r : SA} {v : Option A} : List.set (a0 :: a1 :: a2 :: a3 :: a4 :: a5 :: a6 :: a7 :: a8 :: a9 :: a10 :: a11 :: a12 :: a13 :: a14 :: a15 :: a16 :: a17 :: a18 :: a19 :: a20 :: a21 :: a22 :: a23 :: a24 :: a25 :: a26 :: r) 26 v = a0 :: a1 :: a2 :: a3 :: a4 :: a5 :: a6 :: a7 :: a8 :: a9 :: a10 :: a11 :: a12 :: a13 :: a14 :: a15 :: a16 :: a17 :: a18 :: a19 :: a20 :: a21 :: a22 :: a23 :: a24 :: a25 :: v :: r := rfl
theorem sn27 {a0 a1 a2 a3 a4 a5 a6 a7 a8 a9 a10 a11 a12 a13 a14 a15 a16 a17 a18 a19 a20 a21 a22 a23 a24 a25 a26 a27 : Option A} {r : SA} {v : Option A} : List.set (a0 :: a1 :: a2 :: a3 :: a4 :: a5 :: a6 :: a7 :: a8 :: a9 :: a10 :: a11 :: a12 :: a13 :: a14 :: a15 :: a16 :: a17 :: a18 :: a19 :: a20 :: a21 :: a22 :: a23 :: a24 :: a25 :: a26 :: a27 :: r) 27 v = a0 :: a1 :: a2 :: a3 :: a4 :: a5 :: a6 :: a7 :: a8 :: a9 :: a10 :: a11 :: a12 :: a13 :: a14 :: a15 :: a16 :: a17 :: a18 :: a19 :: a20 :: a21 :: a22 :: a23 :: a24 :: a25 :: a26 :: v :: r := rfl
theorem sa_cons {n : Nat} {a : A} {as : List A} {σ : SA} (e : startA n as = σ) : startA (n + 1) (a :: as) = some a :: σ := by
  rw [← e]
  unfold startA
  rw [List.map_cons, List.length_cons, Nat.add_sub_add_right]
  rfl
theorem sa_nil {n : Nat} {σ : SA} (e : startA n [] = σ) : startA (n + 1) [] = none :: σ := by
  rw [← e]
  rfl
theorem sa_0 : startA 0 [] = [] := rfl
section
variable {pg : Pg} {g : Fid → GQ} {xx : Xx} {σ τ : SA} {h : Hh} {Q : QV} {Y : XQ} {D : En} {W : XS}
theorem q_start {n : Nat} {as : List A} {ss : Ss} (e : startA n as = σ) (q : wpSs pg g xx ss D W σ h) : wpSs pg g xx ss D W (startA n as) h := e ▸ q
theorem q_setN {i : Nat} {e : E} {σ' : A → SA} (e1 : ∀ x, σ.set i (some x) = σ' x) (q : wpE pg g xx e σ h (fun x h1 => D.nx (σ' x) h1) (fun b c fs h1 => W b c fs σ h1)) : wpS pg g xx (.set i e) D W σ h := by
  have : (fun x h1 => D.nx (σ.set i (some x)) h1) = fun x h1 => D.nx (σ' x) h1 := by funext x h1; rw [e1]
  show wpE pg g xx e σ h (fun x h1 => D.nx (σ.set i (some x)) h1) _
  rw [this]
  exact q
theorem q_augN {i : Nat} {a : Int} {e : E} {σ' : Int → SA} (ei : σ[i]? = some (some (.int a))) (e1 : ∀ b, σ.set i (some (.int (a + b))) = σ' b) (q : wpE pg g xx e σ h (fun y h1 => ∃ b, y = .int b ∧ D.nx (σ' b) h1) (fun b c fs h1 => W b c fs σ h1)) (hg : GMono g) : wpS pg g xx (.aug i .Add e) D W σ h :=
  q_aug ei (by simp only [e1]; exact q) hg
theorem tg_nmN {i : Nat} {v : A} {R : SA → Prop} (e : σ.set i (some v) = τ) (q : R τ) : tgW (.nm i) v σ R := by
  subst e
  exact q
theorem tg_prN {i j : Nat} {r : Int × Int} {σ1 σ2 : SA} {R : SA → Prop} (e1 : σ.set i (some (.int r.1)) = σ1) (e2 : σ1.set j (some (.int r.2)) = σ2) (q : R σ2) : tgW (.tp [.nm i, .nm j]) (prA r) σ R := by
  subst e1 e2
  exact tg_pr q
theorem wipe_n {v : Nat} {vs : List Nat} (e : wipeA σ vs = τ) : wipeA σ (v :: vs) = τ.set v none := by rw [← e]; rfl
theorem q_setJN {k : Nat} {i : Nat} {e : E} {r : Ss} {σ' : A → SA} (e1 : ∀ x, σ.set i (some x) = σ' x) (J : A → Hh → Prop) (a : wpE pg (Γ pg k) xx e σ h (fun v h1 => Ok (J v h1)) (fun b c fs h1 => W b c fs σ h1)) (b : ∀ v h1, J v h1 → wpSs pg (Γ pg k) xx r D W (σ' v) h1) : wpSs pg (Γ pg k) xx (.cons (.set i e) r) D W σ h :=
  q_setJ J a fun v h1 z => (e1 v).symm ▸ b v h1 z
end
end Z

/-! ### the pure side: loops whose variables stay, but for the last ones -/
namespace Z
open PySem L2
theorem okj13 {σ pre : SA} {S : List Nat} {h0 h : Hh} {P : Prop} {y1 y2 y3 y4 y5 y6 y7 y8 y9 y10 y11 y12 y13 : Option A} (e : σ = pre ++ [y1, y2, y3, y4, y5, y6, y7, y8, y9, y10, y11, y12, y13]) (k : Ke S h0 h) (p : P) : Ok (∃ y1 y2 y3 y4 y5 y6 y7 y8 y9 y10 y11 y12 y13 : Option A, σ = pre ++ [y1, y2, y3, y4, y5, y6, y7, y8, y9, y10, y11, y12, y13] ∧ Ke S h0 h ∧ P) := Ok.mk ⟨_, _, _, _, _, _, _, _, _, _, _, _, _, e, k, p⟩
theorem for_j13 {pg : Pg} {k : Nat} {xx : Xx} {σ : SA} {h0 : Hh} {D : En} {W : XS} {G : Gd} {t : Tg} {b : Ss} {xs : List A} {pre : SA} {y1 y2 y3 y4 y5 y6 y7 y8 y9 y10 y11 y12 y13 : Option A} (e : σ = pre ++ [y1, y2, y3, y4, y5, y6, y7, y8, y9, y10, y11, y12, y13]) (S : List Nat) (P : Nat → Hh → Prop) (p0 : P 0 h0) (hG : ∀ h, Ke S h0 h → gdOk G h)
    (step : ∀ i x h, xs[i]? = some x → Ke S h0 h → P i h → ∀ y1 y2 y3 y4 y5 y6 y7 y8 y9 y10 y11 y12 y13 : Option A, tgW t x (pre ++ [y1, y2, y3, y4, y5, y6, y7, y8, y9, y10, y11, y12, y13]) fun σ2 => wpSs pg (Γ pg k) xx b ⟨fun σ h => Ok (∃ y1 y2 y3 y4 y5 y6 y7 y8 y9 y10 y11 y12 y13 : Option A, σ = pre ++ [y1, y2, y3, y4, y5, y6, y7, y8, y9, y10, y11, y12, y13] ∧ Ke S h0 h ∧ P (i + 1) h), D.rt, D.nx, fun σ h => Ok (∃ y1 y2 y3 y4 y5 y6 y7 y8 y9 y10 y11 y12 y13 : Option A, σ = pre ++ [y1, y2, y3, y4, y5, y6, y7, y8, y9, y10, y11, y12, y13] ∧ Ke S h0 h ∧ P (i + 1) h)⟩ W σ2 h)
    (done : ∀ h, Ke S h0 h → P xs.length h → ∀ y1 y2 y3 y4 y5 y6 y7 y8 y9 y10 y11 y12 y13 : Option A, D.nx (pre ++ [y1, y2, y3, y4, y5, y6, y7, y8, y9, y10, y11, y12, y13]) h) : forA G (fun x D' σ' h' => tgW t x σ' fun σ2 => wpSs pg (Γ pg k) xx b D' W σ2 h') xs D σ h0 := by
  refine for_inv (fun i σ h => ∃ y1 y2 y3 y4 y5 y6 y7 y8 y9 y10 y11 y12 y13 : Option A, σ = pre ++ [y1, y2, y3, y4, y5, y6, y7, y8, y9, y10, y11, y12, y13] ∧ Ke S h0 h ∧ P i h) ?_ ?_ ?_ ?_
  · exact ⟨_, _, _, _, _, _, _, _, _, _, _, _, _, e, Ke.refl, p0⟩
  · rintro i σ h _ ⟨_, _, _, _, _, _, _, _, _, _, _, _, _, _, kk, _⟩
    exact hG h kk
  · rintro i x σ h e1 ⟨y1, y2, y3, y4, y5, y6, y7, y8, y9, y10, y11, y12, y13, rfl, kk, w⟩
    exact step i x h e1 kk w y1 y2 y3 y4 y5 y6 y7 y8 y9 y10 y11 y12 y13
  · rintro σ h ⟨y1, y2, y3, y4, y5, y6, y7, y8, y9, y10, y11, y12, y13, rfl, kk, w⟩
    exact done h kk w y1 y2 y3 y4 y5 y6 y7 y8 y9 y10 y11 y12 y13
theorem okj14 {σ pre : SA} {S : List Nat} {h0 h : Hh} {P : Prop} {y1 y2 y3 y4 y5 y6 y7 y8 y9 y10 y11 y12 y13 y14 : Option A} (e : σ = pre ++ [y1, y2, y3, y4, y5, y6, y7, y8, y9, y10, y11, y12, y13, y14]) (k : Ke S h0 h) (p : P) : Ok (∃ y1 y2 y3 y4 y5 y6 y7 y8 y9 y10 y11 y12 y13 y14 : Option A, σ = pre ++ [y1, y2, y3, y4, y5, y6, y7, y8, y9, y10, y11, y12, y13, y14] ∧ Ke S h0 h ∧ P) := Ok.mk ⟨_, _, _, _, _, _, _, _, _, _, _, _, _, _, e, k, p⟩
theorem for_j14 {pg : Pg} {k : Nat} {xx : Xx} {σ : SA} {h0 : Hh} {D : En} {W : XS} {G : Gd} {t : Tg} {b : Ss} {xs : List A} {pre : SA} {y1 y2 y3 y4 y5 y6 y7 y8 y9 y10 y11 y12 y13 y14 : Option A} (e : σ = pre ++ [y1, y2, y3, y4, y5, y6, y7, y8, y9, y10, y11, y12, y13, y14]) (S : List Nat) (P : Nat → Hh → Prop) (p0 : P 0 h0) (hG : ∀ h, Ke S h0 h → gdOk G h)
    (step : ∀ i x h, xs[i]? = some x → Ke S h0 h → P i h → ∀ y1 y2 y3 y4 y5 y6 y7 y8 y9 y10 y11 y12 y13 y14 : Option A, tgW t x (pre ++ [y1, y2, y3, y4, y5, y6, y7, y8, y9, y10, y11, y12, y13, y14]) fun σ2 => wpSs pg (Γ pg k) xx b ⟨fun σ h => Ok (∃ y1 y2 y3 y4 y5 y6 y7 y8 y9 y10 y11 y12 y13 y14 : Option A, σ = pre ++ [y1, y2, y3, y4, y5, y6, y7, y8, y9, y10, y11, y12, y13, y14] ∧ Ke S h0 h ∧ P (i + 1) h), D.rt, D.nx, fun σ h => Ok (∃ y1 y2 y3 y4 y5 y6 y7 y8 y9 y10 y11 y12 y13 y14 : Option A, σ = pre ++ [y1, y2, y3, y4, y5, y6, y7, y8, y9, y10, y11, y12, y13, y14] ∧ Ke S h0 h ∧ P (i + 1) h)⟩ W σ2 h)
    (done : ∀ h, Ke S h0 h → P xs.length h → ∀ y1 y2 y3 y4 y5 y6 y7 y8 y9 y10 y11 y12 y13 y14 : Option A, D.nx (pre ++ [y1, y2, y3, y4, y5, y6, y7, y8, y9, y10, y11, y12, y13, y14]) h) : forA G (fun x D' σ' h' => tgW t x σ' fun σ2 => wpSs pg (Γ pg k) xx b D' W σ2 h') xs D σ h0 := by
  refine for_inv (fun i σ h => ∃ y1 y2 y3 y4 y5 y6 y7 y8 y9 y10 y11 y12 y13 y14 : Option A, σ = pre ++ [y1, y2, y3, y4, y5, y6, y7, y8, y9, y10, y11, y12, y13, y14] ∧ Ke S h0 h ∧ P i h) ?_ ?_ ?_ ?_
  · exact ⟨_, _, _, _, _, _, _, _, _, _, _, _, _, _, e, Ke.refl, p0⟩
  · rintro i σ h _ ⟨_, _, _, _, _, _, _, _, _, _, _, _, _, _, _, kk, _⟩
    exact hG h kk
  · rintro i x σ h e1 ⟨y1, y2, y3, y4, y5, y6, y7, y8, y9, y10, y11, y12, y13, y14, rfl, kk, w⟩
    exact step i x h e1 kk w y1 y2 y3 y4 y5 y6 y7 y8 y9 y10 y11 y12 y13 y14
  · rintro σ h ⟨y1, y2, y3, y4, y5, y6, y7, y8, y9, y10, y11, y12, y13, y14, rfl, kk, w⟩
    exact done h kk w y1 y2 y3 y4 y5 y6 y7 y8 y9 y10 y11 y12 y13 y14
theorem okj15 {σ pre : SA} {S : List Nat} {h0 h : Hh} {P : Prop} {y1 y2 y3 y4 y5 y6 y7 y8 y9 y10 y11 y12 y13 y14 y15 : Option A} (e : σ = pre ++ [y1, y2, y3, y4, y5, y6, y7, y8, y9, y10, y11, y12, y13, y14, y15]) (k : Ke S h0 h) (p : P) : Ok (∃ y1 y2 y3 y4 y5 y6 y7 y8 y9 y10 y11 y12 y13 y14 y15 : Option A, σ = pre ++ [y1, y2, y3, y4, y5, y6, y7, y8, y9, y10, y11, y12, y13, y14, y15] ∧ Ke S h0 h ∧ P) := Ok.mk ⟨_, _, _, _, _, _, _, _, _, _, _, _, _, _, _, e, k, p⟩
theorem for_j15 {pg : Pg} {k : Nat} {xx : Xx} {σ : SA} {h0 : Hh} {D : En} {W : XS} {G : Gd} {t : Tg} {b : Ss} {xs : List A} {pre : SA} {y1 y2 y3 y4 y5 y6 y7 y8 y9 y10 y11 y12 y13 y14 y15 : Option A} (e : σ = pre ++ [y1, y2, y3, y4, y5, y6, y7, y8, y9, y10, y11, y12, y13, y14, y15]) (S : List Nat) (P : Nat → Hh → Prop) (p0 : P 0 h0) (hG : ∀ h, Ke S h0 h → gdOk G h)
    (step : ∀ i x h, xs[i]? = some x → Ke S h0 h → P i h → ∀ y1 y2 y3 y4 y5 y6 y7 y8 y9 y10 y11 y12 y13 y14 y15 : Option A, tgW t x (pre ++ [y1, y2, y3, y4, y5, y6, y7, y8, y9, y10, y11, y12, y13, y14, y15]) fun σ2 => wpSs pg (Γ pg k) xx b ⟨fun σ h => Ok (∃ y1 y2 y3 y4 y5 y6 y7 y8 y9 y10 y11 y12 y13 y14 y15 : Option A, σ = pre ++ [y1, y2, y3, y4, y5, y6, y7, y8, y9, y10, y11, y12, y13, y14, y15] ∧ Ke S h0 h ∧ P (i + 1) h), D.rt, D.nx, fun σ h => Ok (∃ y1 y2 y3 y4 y5 y6 y7 y8 y9 y10 y11 y12 y13 y14 y15 : Option A, σ = pre ++ [y1, y2, y3, y4, y5, y6, y7, y8, y9, y10, y11, y12, y13, y14, y15] ∧ Ke S h0 h ∧ P (i + 1) h)⟩ W σ2 h)
    (done : ∀ h, Ke S h0 h → P xs.length h → ∀ y1 y2 y3 y4 y5 y6 y7 y8 y9 y10 y11 y12 y13 y14 y15 : Option A, D.nx (pre ++ [y1, y2, y3, y4, y5, y6, y7, y8, y9, y10, y11, y12, y13, y14, y15]) h) : forA G (fun x D' σ' h' => tgW t x σ' fun σ2 => wpSs pg (Γ pg k) xx b D' W σ2 h') xs D σ h0 := by
  refine for_inv (fun i σ h => ∃ y1 y2 y3 y4 y5 y6 y7 y8 y9 y10 y11 y12 y13 y14 y15 : Option A, σ = pre ++ [y1, y2, y3, y4, y5, y6, y7, y8, y9, y10, y11, y12, y13, y14, y15] ∧ Ke S h0 h ∧ P i h) ?_ ?_ ?_ ?_
  · exact ⟨_, _, _, _, _, _, _, _, _, _, _, _, _, _, _, e, Ke.refl, p0⟩
  · rintro i σ h _ ⟨_, _, _, _, _, _, _, _, _, _, _, _, _, _, _, _, kk, _⟩
    exact hG h kk
  · rintro i x σ h e1 ⟨y1, y2, y3, y4, y5, y6, y7, y8, y9, y10, y11, y12, y13, y14, y15, rfl, kk, w⟩
    exact step i x h e1 kk w y1 y2 y3 y4 y5 y6 y7 y8 y9 y10 y11 y12 y13 y14 y15
  · rintro σ h ⟨y1, y2, y3, y4, y5, y6, y7, y8, y9, y10, y11, y12, y13, y14, y15, rfl, kk, w⟩
    exact done h kk w y1 y2 y3 y4 y5 y6 y7 y8 y9 y10 y11 y12 y13 y14 y15
theorem okj16 {σ pre : SA} {S : List Nat} {h0 h : Hh} {P : Prop} {y1 y2 y3 y4 y5 y6 y7 y8 y9 y10 y11 y12 y13 y14 y15 y16 : Option A} (e : σ = pre ++ [y1, y2, y3, y4, y5, y6, y7, y8, y9, y10, y11, y12, y13, y14, y15, y16]) (k : Ke S h0 h) (p : P) : Ok (∃ y1 y2 y3 y4 y5 y6 y7 y8 y9 y10 y11 y12 y13 y14 y15 y16 : Option A, σ = pre ++ [y1, y2, y3, y4, y5, y6, y7, y8, y9, y10, y11, y12, y13, y14, y15, y16] ∧ Ke S h0 h ∧ P) := Ok.mk ⟨_, _, _, _, _, _, _, _, _, _, _, _, _, _, _, _, e, k, p⟩
theorem for_j16 {pg : Pg} {k : Nat} {xx : Xx} {σ : SA} {h0 : Hh} {D : En} {W : XS} {G : Gd} {t : Tg} {b : Ss} {xs : List A} {pre : SA} {y1 y2 y3 y4 y5 y6 y7 y8 y9 y10 y11 y12 y13 y14 y15 y16 : Option A} (e : σ = pre ++ [y1, y2, y3, y4, y5, y6, y7, y8, y9, y10, y11, y12, y13, y14, y15, y16]) (S : List Nat) (P : Nat → Hh → Prop) (p0 : P 0 h0) (hG : ∀ h, Ke S h0 h → gdOk G h)
    (step : ∀ i x h, xs[i]? = some x → Ke S h0 h → P i h → ∀ y1 y2 y3 y4 y5 y6 y7 y8 y9 y10 y11 y12 y13 y14 y15 y16 : Option A, tgW t x (pre ++ [y1, y2, y3, y4, y5, y6, y7, y8, y9, y10, y11, y12, y13, y14, y15, y16]) fun σ2 => wpSs pg (Γ pg k) xx b ⟨fun σ h => Ok (∃ y1 y2 y3 y4 y5 y6 y7 y8 y9 y10 y11 y12 y13 y14 y15 y16 : Option A, σ = pre ++ [y1, y2, y3, y4, y5, y6, y7, y8, y9, y10, y11, y12, y13, y14, y15, y16] ∧ Ke S h0 h ∧ P (i + 1) h), D.rt, D.nx, fun σ h => Ok (∃ y1 y2 y3 y4 y5 y6 y7 y8 y9 y10 y11 y12 y13 y14 y15 y16 : Option A, σ = pre ++ [y1, y2, y3, y4, y5, y6, y7, y8, y9, y10, y11, y12, y13, y14, y15, y16] ∧ Ke S h0 h ∧ P (i + 1) h)⟩ W σ2 h)
    (done : ∀ h, Ke S h0 h → P xs.length h → ∀ y1 y2 y3 y4 y5 y6 y7 y8 y9 y10 y11 y12 y13 y14 y15 y16 : Option A, D.nx (pre ++ [y1, y2, y3, y4, y5, y6, y7, y8, y9, y10, y11, y12, y13, y14, y15, y16]) h) : forA G (fun x D' σ' h' => tgW t x σ' fun σ2 => wpSs pg (Γ pg k) xx b D' W σ2 h') xs D σ h0 := by
  refine for_inv (fun i σ h => ∃ y1 y2 y3 y4 y5 y6 y7 y8 y9 y10 y11 y12 y13 y14 y15 y16 : Option A, σ = pre ++ [y1, y2, y3, y4, y5, y6, y7, y8, y9, y10, y11, y12, y13, y14, y15, y16] ∧ Ke S h0 h ∧ P i h) ?_ ?_ ?_ ?_
  · exact ⟨_, _, _, _, _, _, _, _, _, _, _, _, _, _, _, _, e, Ke.refl, p0⟩
  · rintro i σ h _ ⟨_, _, _, _, _, _, _, _, _, _, _, _, _, _, _, _, _, kk, _⟩
    exact hG h kk
  · rintro i x σ h e1 ⟨y1, y2, y3, y4, y5, y6, y7, y8, y9, y10, y11, y12, y13, y14, y15, y16, rfl, kk, w⟩
    exact step i x h e1 kk w y1 y2 y3 y4 y5 y6 y7 y8 y9 y10 y11 y12 y13 y14 y15 y16
  · rintro σ h ⟨y1, y2, y3, y4, y5, y6, y7, y8, y9, y10, y11, y12, y13, y14, y15, y16, rfl, kk, w⟩
    exact done h kk w y1 y2 y3 y4 y5 y6 y7 y8 y9 y10 y11 y12 y13 y14 y15 y16
theorem okj17 {σ pre : SA} {S : List Nat} {h0 h : Hh} {P : Prop} {y1 y2 y3 y4 y5 y6 y7 y8 y9 y10 y11 y12 y13 y14 y15 y16 y17 : Option A} (e : σ = pre ++ [y1, y2, y3, y4, y5, y6, y7, y8, y9, y10, y11, y12, y13, y14, y15, y16, y17]) (k : Ke S h0 h) (p : P) : Ok (∃ y1 y2 y3 y4 y5 y6 y7 y8 y9 y10 y11 y12 y13 y14 y15 y16 y17 : Option A, σ = pre ++ [y1, y2, y3, y4, y5, y6, y7, y8, y9, y10, y11, y12, y13, y14, y15, y16, y17] ∧ Ke S h0 h ∧ P) := Ok.mk ⟨_, _, _, _, _, _, _, _, _, _, _, _, _, _, _, _, _, e, k, p⟩
theorem for_j17 {pg : Pg} {k : Nat} {xx : Xx} {σ : SA} {h0 : Hh} {D : En} {W : XS} {G : Gd} {t : Tg} {b : Ss} {xs : List A} {pre : SA} {y1 y2 y3 y4 y5 y6 y7 y8 y9 y10 y11 y12 y13 y14 y15 y16 y17 : Option A} (e : σ = pre ++ [y1, y2, y3, y4, y5, y6, y7, y8, y9, y10, y11, y12, y13, y14, y15, y16, y17]) (S : List Nat) (P : Nat → Hh → Prop) (p0 : P 0 h0) (hG : ∀ h, Ke S h0 h → gdOk G h)
    (step : ∀ i x h, xs[i]? = some x → Ke S h0 h → P i h → ∀ y1 y2 y3 y4 y5 y6 y7 y8 y9 y10 y11 y12 y13 y14 y15 y16 y17 : Option A, tgW t x (pre ++ [y1, y2, y3, y4, y5, y6, y7, y8, y9, y10, y11, y12, y13, y14, y15, y16, y17]) fun σ2 => wpSs pg (Γ pg k) xx b ⟨fun σ h => Ok (∃ y1 y2 y3 y4 y5 y6 y7 y8 y9 y10 y11 y12 y13 y14 y15 y16 y17 : Option A, σ = pre ++ [y1, y2, y3, y4, y5, y6, y7, y8, y9, y10, y11, y12, y13, y14, y15, y16, y17] ∧ Ke S h0 h ∧ P (i + 1) h), D.rt, D.nx, fun σ h => Ok (∃ y1 y2 y3 y4 y5 y6 y7 y8 y9 y10 y11 y12 y13 y14 y15 y16 y17 : Option A, σ = pre ++ [y1, y2, y3, y4, y5, y6, y7, y8, y9, y10, y11, y12, y13, y14, y15, y16, y17] ∧ Ke S h0 h ∧ P (i + 1) h)⟩ W σ2 h)
    (done : ∀ h, Ke S h0 h → P xs.length h → ∀ y1 y2 y3 y4 y5 y6 y7 y8 y9 y10 y11 y12 y13 y14 y15 y16 y17 : Option A, D.nx (pre ++ [y1, y2, y3, y4, y5, y6, y7, y8, y9, y10, y11, y12, y13, y14, y15, y16, y17]) h) : forA G (fun x D' σ' h' => tgW t x σ' fun σ2 => wpSs pg (Γ pg k) xx b D' W σ2 h') xs D σ h0 := by
  refine for_inv (fun i σ h => ∃ y1 y2 y3 y4 y5 y6 y7 y8 y9 y10 y11 y12 y13 y14 y15 y16 y17 : Option A, σ = pre ++ [y1, y2, y3, y4, y5, y6, y7, y8, y9, y10, y11, y12, y13, y14, y15, y16, y17] ∧ Ke S h0 h ∧ P i h) ?_ ?_ ?_ ?_
  · exact ⟨_, _, _, _, _, _, _, _, _, _, _, _, _, _, _, _, _, e, Ke.refl, p0⟩
  · rintro i σ h _ ⟨_, _, _, _, _, _, _, _, _, _, _, _, _, _, _, _, _, _, kk, _⟩
    exact hG h kk
  · rintro i x σ h e1 ⟨y1, y2, y3, y4, y5, y6, y7, y8, y9, y10, y11, y12, y13, y14, y15, y16, y17, rfl, kk, w⟩
    exact step i x h e1 kk w y1 y2 y3 y4 y5 y6 y7 y8 y9 y10 y11 y12 y13 y14 y15 y16 y17
  · rintro σ h ⟨y1, y2, y3, y4, y5, y6, y7, y8, y9, y10, y11, y12, y13, y14, y15, y16, y17, rfl, kk, w⟩
    exact done h kk w y1 y2 y3 y4 y5 y6 y7 y8 y9 y10 y11 y12 y13 y14 y15 y16 y17
theorem okj18 {σ pre : SA} {S : List Nat} {h0 h : Hh} {P : Prop} {y1 y2 y3 y4 y5 y6 y7 y8 y9 y10 y11 y12 y13 y14 y15 y16 y17 y18 : Option A} (e : σ = pre ++ [y1, y2, y3, y4, y5, y6, y7, y8, y9, y10, y11, y12, y13, y14, y15, y16, y17, y18]) (k : Ke S h0 h) (p : P) : Ok (∃ y1 y2 y3 y4 y5 y6 y7 y8 y9 y10 y11 y12 y13 y14 y15 y16 y17 y18 : Option A, σ = pre ++ [y1, y2, y3, y4, y5, y6, y7, y8, y9, y10, y11, y12, y13, y14, y15, y16, y17, y18] ∧ Ke S h0 h ∧ P) := Ok.mk ⟨_, _, _, _, _, _, _, _, _, _, _, _, _, _, _, _, _, _, e, k, p⟩
theorem for_j18 {pg : Pg} {k : Nat} {xx : Xx} {σ : SA} {h0 : Hh} {D : En} {W : XS} {G : Gd} {t : Tg} {b : Ss} {xs : List A} {pre : SA} {y1 y2 y3 y4 y5 y6 y7 y8 y9 y10 y11 y12 y13 y14 y15 y16 y17 y18 : Option A} (e : σ = pre ++ [y1, y2, y3, y4, y5, y6, y7, y8, y9, y10, y11, y12, y13, y14, y15, y16, y17, y18]) (S : List Nat) (P : Nat → Hh → Prop) (p0 : P 0 h0) (hG : ∀ h, Ke S h0 h → gdOk G h)
    (step : ∀ i x h, xs[i]? = some x → Ke S h0 h → P i h → ∀ y1 y2 y3 y4 y5 y6 y7 y8 y9 y10 y11 y12 y13 y14 y15 y16 y17 y18 : Option A, tgW t x (pre ++ [y1, y2, y3, y4, y5, y6, y7, y8, y9, y10, y11, y12, y13, y14, y15, y16, y17, y18]) fun σ2 => wpSs pg (Γ pg k) xx b ⟨fun σ h => Ok (∃ y1 y2 y3 y4 y5 y6 y7 y8 y9 y10 y11 y12 y13 y14 y15 y16 y17 y18 : Option A, σ = pre ++ [y1, y2, y3, y4, y5, y6, y7, y8, y9, y10, y11, y12, y13, y14, y15, y16, y17, y18] ∧ Ke S h0 h ∧ P (i + 1) h), D.rt, D.nx, fun σ h => Ok (∃ y1 y2 y3 y4 y5 y6 y7 y8 y9 y10 y11 y12 y13 y14 y15 y16 y17 y18 : Option A, σ = pre ++ [y1, y2, y3, y4, y5, y6, y7, y8, y9, y10, y11, y12, y13, y14, y15, y16, y17, y18] ∧ Ke S h0 h ∧ P (i + 1) h)⟩ W σ2 h)
    (done : ∀ h, Ke S h0 h → P xs.length h → ∀ y1 y2 y3 y4 y5 y6 y7 y8 y9 y10 y11 y12 y13 y14 y15 y16 y17 y18 : Option A, D.nx (pre ++ [y1, y2, y3, y4, y5, y6, y7, y8, y9, y10, y11, y12, y13, y14, y15, y16, y17, y18]) h) : forA G (fun x D' σ' h' => tgW t x σ' fun σ2 => wpSs pg (Γ pg k) xx b D' W σ2 h') xs D σ h0 := by
  refine for_inv (fun i σ h => ∃ y1 y2 y3 y4 y5 y6 y7 y8 y9 y10 y11 y12 y13 y14 y15 y16 y17 y18 : Option A, σ = pre ++ [y1, y2, y3, y4, y5, y6, y7, y8, y9, y10, y11, y12, y13, y14, y15, y16, y17, y18] ∧ Ke S h0 h ∧ P i h) ?_ ?_ ?_ ?_
  · exact ⟨_, _, _, _, _, _, _, _, _, _, _, _, _, _, _, _, _, _, e, Ke.refl, p0⟩
  · rintro i σ h _ ⟨_, _, _, _, _, _, _, _, _, _, _, _, _, _, _, _, _, _, _, kk, _⟩
    exact hG h kk
  · rintro i x σ h e1 ⟨y1, y2, y3, y4, y5, y6, y7, y8, y9, y10, y11, y12, y13, y14, y15, y16, y17, y18, rfl, kk, w⟩
    exact step i x h e1 kk w y1 y2 y3 y4 y5 y6 y7 y8 y9 y10 y11 y12 y13 y14 y15 y16 y17 y18
  · rintro σ h ⟨y1, y2, y3, y4, y5, y6, y7, y8, y9, y10, y11, y12, y13, y14, y15, y16, y17, y18, rfl, kk, w⟩
    exact done h kk w y1 y2 y3 y4 y5 y6 y7 y8 y9 y10 y11 y12 y13 y14 y15 y16 y17 y18
theorem okj19 {σ pre : SA} {S : List Nat} {h0 h : Hh} {P : Prop} {y1 y2 y3 y4 y5 y6 y7 y8 y9 y10 y11 y12 y13 y14 y15 y16 y17 y18 y19 : Option A} (e : σ = pre ++ [y1, y2, y3, y4, y5, y6, y7, y8, y9, y10, y11, y12, y13, y14, y15, y16, y17, y18, y19]) (k : Ke S h0 h) (p : P) : Ok (∃ y1 y2 y3 y4 y5 y6 y7 y8 y9 y10 y11 y12 y13 y14 y15 y16 y17 y18 y19 : Option A, σ = pre ++ [y1, y2, y3, y4, y5, y6, y7, y8, y9, y10, y11, y12, y13, y14, y15, y16, y17, y18, y19] ∧ Ke S h0 h ∧ P) := Ok.mk ⟨_, _, _, _, _, _, _, _, _, _, _, _, _, _, _, _, _, _, _, e, k, p⟩
theorem for_j19 {pg : Pg} {k : Nat} {xx : Xx} {σ : SA} {h0 : Hh} {D : En} {W : XS} {G : Gd} {t : Tg} {b : Ss} {xs : List A} {pre : SA} {y1 y2 y3 y4 y5 y6 y7 y8 y9 y10 y11 y12 y13 y14 y15 y16 y17 y18 y19 : Option A} (e : σ = pre ++ [y1, y2, y3, y4, y5, y6, y7, y8, y9, y10, y11, y12, y13, y14, y15, y16, y17, y18, y19]) (S : List Nat) (P : Nat → Hh → Prop) (p0 : P 0 h0) (hG : ∀ h, Ke S h0 h → gdOk G h)
    (step : ∀ i x h, xs[i]? = some x → Ke S h0 h → P i h → ∀ y1 y2 y3 y4 y5 y6 y7 y8 y9 y10 y11 y12 y13 y14 y15 y16 y17 y18 y19 : Option A, tgW t x (pre ++ [y1, y2, y3, y4, y5, y6, y7, y8, y9, y10, y11, y12, y13, y14, y15, y16, y17, y18, y19]) fun σ2 => wpSs pg (Γ pg k) xx b ⟨fun σ h => Ok (∃ y1 y2 y3 y4 y5 y6 y7 y8 y9 y10 y11 y12 y13 y14 y15 y16 y17 y18 y19 : Option A, σ = pre ++ [y1, y2, y3, y4, y5, y6, y7, y8, y9, y10, y11, y12, y13, y14, y15, y16, y17, y18, y19] ∧ Ke S h0 h ∧ P (i + 1) h), D.rt, D.nx, fun σ h => Ok (∃ y1 y2 y3 y4 y5 y6 y7 y8 y9 y10 y11 y12 y13 y14 y15 y16 y17 y18 y19 : Option A, σ = pre ++ [y1, y2, y3, y4, y5, y6, y7, y8, y9, y10, y11, y12, y13, y14, y15, y16, y17, y18, y19] ∧ Ke S h0 h ∧ P (i + 1) h)⟩ W σ2 h)
    (done : ∀ h, Ke S h0 h → P xs.length h → ∀ y1 y2 y3 y4 y5 y6 y7 y8 y9 y10 y11 y12 y13 y14 y15 y16 y17 y18 y19 : Option A, D.nx (pre ++ [y1, y2, y3, y4, y5, y6, y7, y8, y9, y10, y11, y12, y13, y14, y15, y16, y17, y18, y19]) h) : forA G (fun x D' σ' h' => tgW t x σ' fun σ2 => wpSs pg (Γ pg k) xx b D' W σ2 h') xs D σ h0 := by
  refine for_inv (fun i σ h => ∃ y1 y2 y3 y4 y5 y6 y7 y8 y9 y10 y11 y12 y13 y14 y15 y16 y17 y18 y19 : Option A, σ = pre ++ [y1, y2, y3, y4, y5, y6, y7, y8, y9, y10, y11, y12, y13, y14, y15, y16, y17, y18, y19] ∧ Ke S h0 h ∧ P i h) ?_ ?_ ?_ ?_
  · exact ⟨_, _, _, _, _, _, _, _, _, _, _, _, _, _, _, _, _, _, _, e, Ke.refl, p0⟩
  · rintro i σ h _ ⟨_, _, _, _, _, _, _, _, _, _, _, _, _, _, _, _, _, _, _, _, kk, _⟩
    exact hG h kk
  · rintro i x σ h e1 ⟨y1, y2, y3, y4, y5, y6, y7, y8, y9, y10, y11, y12, y13, y14, y15, y16, y17, y18, y19, rfl, kk, w⟩
    exact step i x h e1 kk w y1 y2 y3 y4 y5 y6 y7 y8 y9 y10 y11 y12 y13 y14 y15 y16 y17 y18 y19
  · rintro σ h ⟨y1, y2, y3, y4, y5, y6, y7, y8, y9, y10, y11, y12, y13, y14, y15, y16, y17, y18, y19, rfl, kk, w⟩
    exact done h kk w y1 y2 y3 y4 y5 y6 y7 y8 y9 y10 y11 y12 y13 y14 y15 y16 y17 y18 y19
theorem okj20 {σ pre : SA} {S : List Nat} {h0 h : Hh} {P : Prop} {y1 y2 y3 y4 y5 y6 y7 y8 y9 y10 y11 y12 y13 y14 y15 y16 y17 y18 y19 y20 : Option A} (e : σ = pre ++ [y1, y2, y3, y4, y5, y6, y7, y8, y9, y10, y11, y12, y13, y14, y15, y16, y17, y18, y19, y20]) (k : Ke S h0 h) (p : P) : Ok (∃ y1 y2 y3 y4 y5 y6 y7 y8 y9 y10 y11 y12 y13 y14 y15 y16 y17 y18 y19 y20 : Option A, σ = pre ++ [y1, y2, y3, y4, y5, y6, y7, y8, y9, y10, y11, y12, y13, y14, y15, y16, y17, y18, y19, y20] ∧ Ke S h0 h ∧ P) := Ok.mk ⟨_, _, _, _, _, _, _, _, _, _, _, _, _, _, _, _, _, _, _, _, e, k, p⟩
theorem for_j20 {pg : Pg} {k : Nat} {xx : Xx} {σ : SA} {h0 : Hh} {D : En} {W : XS} {G : Gd} {t : Tg} {b : Ss} {xs : List A} {pre : SA} {y1 y2 y3 y4 y5 y6 y7 y8 y9 y10 y11 y12 y13 y14 y15 y16 y17 y18 y19 y20 : Option A} (e : σ = pre ++ [y1, y2, y3, y4, y5, y6, y7, y8, y9, y10, y11, y12, y13, y14, y15, y16, y17, y18, y19, y20]) (S : List Nat) (P : Nat → Hh → Prop) (p0 : P 0 h0) (hG : ∀ h, Ke S h0 h → gdOk G h)
    (step : ∀ i x h, xs[i]? = some x → Ke S h0 h → P i h → ∀ y1 y2 y3 y4 y5 y6 y7 y8 y9 y10 y11 y12 y13 y14 y15 y16 y17 y18 y19 y20 : Option A, tgW t x (pre ++ [y1, y2, y3, y4, y5, y6, y7, y8, y9, y10, y11, y12, y13, y14, y15, y16, y17, y18, y19, y20]) fun σ2 => wpSs pg (Γ pg k) xx b ⟨fun σ h => Ok (∃ y1 y2 y3 y4 y5 y6 y7 y8 y9 y10 y11 y12 y13 y14 y15 y16 y17 y18 y19 y20 : Option A, σ = pre ++ [y1, y2, y3, y4, y5, y6, y7, y8, y9, y10, y11, y12, y13, y14, y15, y16, y17, y18, y19, y20] ∧ Ke S h0 h ∧ P (i + 1) h), D.rt, D.nx, fun σ h => Ok (∃ y1 y2 y3 y4 y5 y6 y7 y8 y9 y10 y11 y12 y13 y14 y15 y16 y17 y18 y19 y20 : Option A, σ = pre ++ [y1, y2, y3, y4, y5, y6, y7, y8, y9, y10, y11, y12, y13, y14, y15, y16, y17, y18, y19, y20] ∧ Ke S h0 h ∧ P (i + 1) h)⟩ W σ2 h)
    (done : ∀ h, Ke S h0 h → P xs.length h → ∀ y1 y2 y3 y4 y5 y6 y7 y8 y9 y10 y11 y12 y13 y14 y15 y16 y17 y18 y19 y20 : Option A, D.nx (pre ++ [y1, y2, y3, y4, y5, y6, y7, y8, y9, y10, y11, y12, y13, y14, y15, y16, y17, y18, y19, y20]) h) : forA G (fun x D' σ' h' => tgW t x σ' fun σ2 => wpSs pg (Γ pg k) xx b D' W σ2 h') xs D σ h0 := by
  refine for_inv (fun i σ h => ∃ y1 y2 y3 y4 y5 y6 y7 y8 y9 y10 y11 y12 y13 y14 y15 y16 y17 y18 y19 y20 : Option A, σ = pre ++ [y1, y2, y3, y4, y5, y6, y7, y8, y9, y10, y11, y12, y13, y14, y15, y16, y17, y18, y19, y20] ∧ Ke S h0 h ∧ P i h) ?_ ?_ ?_ ?_
  · exact ⟨_, _, _, _, _, _, _, _, _, _, _, _, _, _, _, _, _, _, _, _, e, Ke.refl, p0⟩
  · rintro i σ h _ ⟨_, _, _, _, _, _, _, _, _, _, _, _, _, _, _, _, _, _, _, _, _, kk, _⟩
    exact hG h kk
  · rintro i x σ h e1 ⟨y1, y2, y3, y4, y5, y6, y7, y8, y9, y10, y11, y12, y13, y14, y15, y16, y17, y18, y19, y20, rfl, kk, w⟩
    exact step i x h e1 kk w y1 y2 y3 y4 y5 y6 y7 y8 y9 y10 y11 y12 y13 y14 y15 y16 y17 y18 y19 y20
  · rintro σ h ⟨y1, y2, y3, y4, y5, y6, y7, y8, y9, y10, y11, y12, y13, y14, y15, y16, y17, y18, y19, y20, rfl, kk, w⟩
    exact done h kk w y1 y2 y3 y4 y5 y6 y7 y8 y9 y10 y11 y12 y13 y14 y15 y16 y17 y18 y19 y20
end Z

/-! ### the pure side: tests of comprehensions -/
namespace Z
section
variable {h : Hh} {σ : SA}
theorem wc_blt {t : WE} {f : Bf} {a : Es} {R : Bool → Hh → Prop} (q : t σ h (fun x h1 => ∃ k, x = .bl k ∧ R k h1) (fun _ _ _ _ => False)) : wpC t (.blt f a) σ h R := q
theorem wc_bx {t : WE} {f : Bxf} {a : Es} {R : Bool → Hh → Prop} (q : t σ h (fun x h1 => ∃ k, x = .bl k ∧ R k h1) (fun _ _ _ _ => False)) : wpC t (.bx f a) σ h R := q
theorem wc_var {t : WE} {i : Nat} {R : Bool → Hh → Prop} (q : t σ h (fun x h1 => ∃ k, x = .bl k ∧ R k h1) (fun _ _ _ _ => False)) : wpC t (.var i) σ h R := q
theorem wc_cst {t : WE} {v : A} {R : Bool → Hh → Prop} (q : t σ h (fun x h1 => ∃ k, x = .bl k ∧ R k h1) (fun _ _ _ _ => False)) : wpC t (.cst v) σ h R := q
theorem wc_ch3 {t : WE} {o p s : PySem.CmpOp} {a b c d : E} {R : Bool → Hh → Prop} (q : t σ h (fun x h1 => ∃ k, x = .bl k ∧ R k h1) (fun _ _ _ _ => False)) : wpC t (.ch3 o p s a b c d) σ h R := q
theorem wc_isi {t : WE} {a : E} {cs : List String} {R : Bool → Hh → Prop} (q : t σ h (fun x h1 => ∃ k, x = .bl k ∧ R k h1) (fun _ _ _ _ => False)) : wpC t (.isi a cs) σ h R := q
theorem wc_meth {t : WE} {a : E} {m : String} {as : Es} {R : Bool → Hh → Prop} (q : t σ h (fun x h1 => ∃ k, x = .bl k ∧ R k h1) (fun _ _ _ _ => False)) : wpC t (.meth a m as) σ h R := q
theorem wc_bm {t : WE} {m : Bm} {a : E} {as : Es} {R : Bool → Hh → Prop} (q : t σ h (fun x h1 => ∃ k, x = .bl k ∧ R k h1) (fun _ _ _ _ => False)) : wpC t (.bm m a as) σ h R := q
theorem wc_callv {t : WE} {i : Nat} {as : Es} {R : Bool → Hh → Prop} (q : t σ h (fun x h1 => ∃ k, x = .bl k ∧ R k h1) (fun _ _ _ _ => False)) : wpC t (.callv i as) σ h R := q
theorem wc_fld {t : WE} {a : E} {f : String} {R : Bool → Hh → Prop} (q : t σ h (fun x h1 => ∃ k, x = .bl k ∧ R k h1) (fun _ _ _ _ => False)) : wpC t (.fld a f) σ h R := q
theorem wc_idx {t : WE} {a b : E} {R : Bool → Hh → Prop} (q : t σ h (fun x h1 => ∃ k, x = .bl k ∧ R k h1) (fun _ _ _ _ => False)) : wpC t (.idx a b) σ h R := q
theorem wc_ite {t : WE} {a b c : E} {R : Bool → Hh → Prop} (q : t σ h (fun x h1 => ∃ k, x = .bl k ∧ R k h1) (fun _ _ _ _ => False)) : wpC t (.ite a b c) σ h R := q
theorem wc_xis {t : WE} {ds : List String} {R : Bool → Hh → Prop} (q : t σ h (fun x h1 => ∃ k, x = .bl k ∧ R k h1) (fun _ _ _ _ => False)) : wpC t (.xis ds) σ h R := q
end
end Z

/-! ### the pure side: clauses that raise anew -/
namespace Z
section
variable {pg : Pg} {g : Fid → GQ} {xx : Xx} {σ : SA} {h : Hh} {D : En} {W : XS}
theorem h_thr1 {cs : List String} {c x f : String} {a : E} {r : Hs} {fs : List (String × A)} (e1 : (pg.er c).isSome = true) (e2 : (cs.any fun d => (pg.up c).contains d) = true) (e3 : pg.er x = some [f])
    (q : wpE pg g (some (c, fs)) a σ h (fun v h1 => W false x [(f, v)] σ h1) (fun _ _ _ _ => False)) (hg : GMono g) : wpH pg g xx (.thrw cs x (.cons a .nil) r) true c fs D W σ h :=
  ⟨e1, by rw [if_pos e2]; exact ⟨rfl, [f], e3, wpE_mono hg a (fun _ _ z => ⟨rfl, z⟩) (fun _ _ _ _ z => z) q⟩⟩
theorem h_thrM {cs : List String} {c x : String} {as : Es} {r : Hs} {kk : Bool} {fs : List (String × A)} (e1 : (pg.er c).isSome = true) (e2 : (cs.any fun d => (pg.up c).contains d) = false)
    (q : wpH pg g xx r kk c fs D W σ h) : wpH pg g xx (.thrw cs x as r) kk c fs D W σ h := ⟨e1, by rw [if_neg (by rw [e2]; exact Bool.false_ne_true)]; exact q⟩
end
end Z
/-! a sign, many times -/
namespace Z
open PySem
theorem rep_fold {c : Nat} : ∀ (n : Nat) (acc : List Nat), (List.replicate n #[c]).foldl (· ++ ·) acc.toArray = (acc ++ List.replicate n c).toArray
  | 0, acc => by simp
  | n + 1, acc => by
    rw [List.replicate_succ, List.foldl_cons, show acc.toArray ++ #[c] = (acc ++ [c]).toArray by simp, rep_fold n]
    rw [List.append_assoc, List.replicate_succ]
    rfl
theorem mul_1 {c : Nat} {i : Int} : Txt.mul ⟨#[c]⟩ i = ⟨(List.replicate i.toNat c).toArray⟩ := by
  unfold Txt.mul
  by_cases h : i < 1
  · rw [if_pos h, show i.toNat = 0 by omega]
    rfl
  · rw [if_neg h]
    by_cases h1 : i = 1
    · subst h1
      rfl
    · rw [if_neg (by
        have : (PySem.Str.length ⟨#[c]⟩) = 1 := rfl
        rw [this]
        simp [h1])]
      have := rep_fold (c := c) i.toNat []
      rw [List.nil_append] at this
      exact congrArg PySem.Str.mk this
theorem mulok_1 {z : PySem.Str} {i : Int} (hz : z.length = 1) (h0 : -1000000 ≤ i) (h1 : i ≤ 1000000) : MulOk z i := by
  refine ⟨?_, fun _ _ => ?_, fun _ _ => ?_⟩
  · rw [decide_eq_false (by omega), decide_eq_false (by omega)]
    rfl
  · rw [hz]
    intro h
    have hd : (1 : Int) ≤ (2 ^ 63 - 1) / i := (Int.le_ediv_iff_mul_le (by omega)).mpr (by omega)
    have h' : ((1 : Nat) : Int) > (2 ^ 63 - 1) / i := h
    omega
  · rw [hz, Nat.one_mul]
    unfold Builtin.Str.tooLong
    simp only [decide_eq_false_iff_not, sizeLine_eq]
    omega
theorem b_mulS {h : Hh} {Q : QV} {z : PySem.Str} {i : Int} (c : Nat) (e : z = ⟨#[c]⟩) (h0 : -1000000 ≤ i) (h1 : i ≤ 1000000) (q : Q (.str ⟨(List.replicate i.toNat c).toArray⟩) h) : binW .Mult (.str z) (.int i) h Q := by
  subst e
  exact ⟨mulok_1 rfl h0 h1, by rw [mul_1]; exact q⟩
end Z
/-! a field, one more -/
namespace Z
open PySem
section
variable {pg : Pg} {g : Fid → GQ} {xx : Xx} {σ : SA} {h : Hh} {D : En} {W : XS}
def afW (pg : Pg) (g : Fid → GQ) (xx : Xx) (σ : SA) (x : A) (f : String) (op : Operator) (e : E) (h1 : Hh) (R : Hh → Prop) (Y : XQ) : Prop := ∃ n C fs a, x = .ref n ∧ h1[n]? = some (.ins C fs) ∧ (pg.fl C).contains f = true ∧ fs.lookup f = some (.int a) ∧ wpE pg g xx e σ h1 (fun y h2 => ∃ b fs2, y = .int b ∧ op = .Add ∧ h2[n]? = some (.ins C fs2) ∧ fs2.length < 1000 ∧ R (h2.set n (.ins C (putA f (.int (a + b)) fs2)))) Y
def agW (n : Nat) (C f : String) (a : Int) (y : A) (h2 : Hh) (R : Hh → Prop) : Prop := ∃ b fs2, y = .int b ∧ h2[n]? = some (.ins C fs2) ∧ fs2.length < 1000 ∧ R (h2.set n (.ins C (putA f (.int (a + b)) fs2)))
theorem q_augF {o e : E} {f : String} {op : Operator} (q : wpE pg g xx o σ h (fun x h1 => afW pg g xx σ x f op e h1 (fun h3 => D.nx σ h3) (fun b c fs h1 => W b c fs σ h1)) (fun b c fs h1 => W b c fs σ h1)) : wpS pg g xx (.augF o f op e) D W σ h := q
theorem gAF {x : A} {f : String} {op : Operator} {e : E} {R : Hh → Prop} {Y : XQ} (q : afW pg g xx σ x f op e h R Y) : afW pg g xx σ x f op e h R Y := q
theorem af_in {n : Nat} {C f : String} {fs : List (String × A)} {a : Int} {e : E} {R : Hh → Prop} {Y : XQ} (e1 : h[n]? = some (.ins C fs)) (e2 : (pg.fl C).contains f = true) (e3 : fs.lookup f = some (.int a)) (hg : GMono g)
    (q : wpE pg g xx e σ h (fun y h2 => agW n C f a y h2 R) Y) : afW pg g xx σ (.ref n) f .Add e h R Y :=
  ⟨n, C, fs, a, rfl, e1, e2, e3, wpE_mono hg e (fun _ _ ⟨b, fs2, z1, z2, z3, z4⟩ => ⟨b, fs2, z1, rfl, z2, z3, z4⟩) (fun _ _ _ _ z => z) q⟩
theorem gAG {n : Nat} {C f : String} {a : Int} {y : A} {R : Hh → Prop} (q : agW n C f a y h R) : agW n C f a y h R := q
theorem ag_in {n : Nat} {C f : String} {fs fs' : List (String × A)} {a b : Int} {R : Hh → Prop} (e : h[n]? = some (.ins C fs)) (l : fs.length < 1000) (p : putA f (.int (a + b)) fs = fs') (q : ∀ h', Ke [n] h h' → h'.length = h.length → h'[n]? = some (.ins C fs') → R h') : agW n C f a (.int b) h R :=
  ⟨b, fs, rfl, e, l, by rw [p]; exact sw e q⟩
end
end Z
/-! calls that leave out one argument that may be left out -/
namespace Z
open PySem
section
variable {pg : Pg} {xx : Xx} {σ : SA} {h : Hh} {Q : QV} {Y : XQ} {k : Nat}
theorem r_callP {f : String} {as : Es} {fn : Fn} (e : pg.d f = some fn) (l : as.len + 1 = fn.ps.length) (d : fn.df = 1) (q : wpEs pg (Γ pg k) xx as σ h (fun xs h1 => Γ pg k (.d f) (xs ++ [.non]) h1 Q Y) Y) : wpE pg (Γ pg k) xx (.call f as) σ h Q Y := by
  refine ⟨fn, e, by omega, by omega, wpEs_mono (Γ_mono pg k) as (fun xs h1 w => ?_) (fun _ _ _ _ z => z) q⟩
  rw [show fn.ps.length - as.len = 1 by omega]
  exact w
theorem me_P {n : Nat} {C m : String} {fs : List (String × A)} {fn : Fn} {as : Es} (e : h[n]? = some (.ins C fs)) (l : fs.lookup m = none) (ne : m ≠ "__init__") (em : pg.m C m = some fn) (el : as.len + 2 = fn.ps.length) (d : fn.df = 1)
    (q : wpEs pg (Γ pg k) xx as σ h (fun xs h2 => Γ pg k (.m C m) (.ref n :: (xs ++ [.non])) h2 Q Y) Y) : methW pg (Γ pg k) xx m as σ (.ref n) h Q Y := by
  refine ⟨n, C, fs, fn, rfl, e, l, ne, em, by omega, by omega, wpEs_mono (Γ_mono pg k) as (fun xs h1 w => ?_) (fun _ _ _ _ z => z) q⟩
  rw [show fn.ps.length - 1 - as.len = 1 by omega]
  exact w
theorem r_mkP {C : String} {as : Es} {fn : Fn} (e : pg.m C "__init__" = some fn) (el : as.len + 2 = fn.ps.length) (d : fn.df = 1) (q : wpEs pg (Γ pg k) xx as σ h (fun xs h1 => mkW pg k C (xs ++ [.non]) h1 Q Y) Y) : wpE pg (Γ pg k) xx (.mk C as) σ h Q Y := by
  refine ⟨fn, e, by omega, by omega, wpEs_mono (Γ_mono pg k) as (fun xs h1 w => ?_) (fun _ _ _ _ z => z) q⟩
  rw [show fn.ps.length - 1 - as.len = 1 by omega]
  exact w _ Ke.push (by rw [List.length_append]; rfl) hg_new
end
end Z

namespace My
open Z
def f__law_asked : Fn := ⟨["_law_way", "_law_disk", "_law_things"], 3, 0, (.cons (.ite (.cmp .Eq (.var 0) (.cst (.int 0))) (.cons (.ex (.meth (.var 1) "write" (.cons (.idx (.var 2) (.cst (.int 0))) (.cons (.idx (.var 2) (.cst (.int 1))) (.cons (.idx (.var 2) (.cst (.int 2))) .nil))))) .nil) .nil) (.cons (.ite (.cmp .Eq (.var 0) (.cst (.int 1))) (.cons (.ex (.meth (.var 1) "page_at" (.cons (.idx (.var 2) (.cst (.int 0))) .nil))) .nil) .nil) (.cons (.ite (.cmp .Eq (.var 0) (.cst (.int 2))) (.cons (.ex (.mk "Disk" (.cons (.idx (.var 2) (.cst (.int 0))) .nil))) .nil) .nil) (.cons (.ite (.cmp .Eq (.var 0) (.cst (.int 3))) (.cons (.ex (.call "disk_of" (.cons (.idx (.var 2) (.cst (.int 0))) .nil))) .nil) .nil) (.cons (.ite (.cmp .Eq (.var 0) (.cst (.int 4))) (.cons (.ex (.mk "Power" (.cons (.idx (.var 2) (.cst (.int 0))) .nil))) .nil) .nil) .nil)))))⟩
def f__law_box : Fn := ⟨["_law_cell"], 1, 0, (.cons (.ret (.lst (.cons (.bin .Mult (.blt .max (.cons (.cst (.int 0)) (.cons (.var 0) .nil))) (.blt .int (.cons (.cmp .GtE (.var 0) (.bin .Pow (.cst (.int 10)) (.cst (.int 18)))) .nil))) (.cons (.bin .Mod (.var 0) (.cst (.int 2147483563))) (.cons (.cst (.int 0)) .nil))))) .nil)⟩
def f__law_case : Fn := ⟨["_law_box_here"], 13, 0, (.cons (.set 1 (.bin .Add (.cst (.int 4)) (.call "_law_take" (.cons (.var 0) (.cons (.cst (.int 37)) .nil))))) (.cons (.set 2 (.mk "Disk" (.cons (.var 1) .nil))) (.cons (.for (.nm 3) (.rng (.cons (.call "_law_take" (.cons (.var 0) (.cons (.cst (.int 4)) .nil))) .nil)) (.cons (.ex (.meth (.var 2) "write" (.cons (.call "_law_take" (.cons (.var 0) (.cons (.var 1) .nil))) (.cons (.blt .tuple (.cons (.lc [12] (.nm 12) (.rng (.cons (.cst (.int 20)) .nil)) .no (.call "_law_word" (.cons (.var 0) .nil))) .nil)) .nil)))) .nil)) (.cons (.set 4 (.meth (.var 2) "pages" .nil)) (.cons (.set 5 (.idx (.var 4) (.call "_law_take" (.cons (.var 0) (.cons (.var 1) .nil))))) (.cons (.set 6 (.mk "Power" (.cons (.call "_law_take" (.cons (.var 0) (.cons (.cst (.int 3)) .nil))) .nil))) (.cons (.for (.nm 7) (.ex (.lst (.cons (.var 1) (.cons (.neg (.cst (.int 1))) (.cons (.bin .Add (.var 1) (.call "_law_take" (.cons (.var 0) (.cons (.cst (.int 500)) .nil)))) (.cons (.cst .non) (.cons (.cst (.bl true)) (.cons (.cst (.bl false)) (.cons (.cst (.str (st "0"))) (.cons (.tup (.cons (.cst (.int 0)) .nil)) (.cons (.lst (.cons (.cst (.int 0)) .nil)) (.cons (.dnew false) (.cons (.bin .Pow (.cst (.int 10)) (.cst (.int 29))) .nil))))))))))))) (.cons (.for (.nm 8) (.ex (.lst (.cons (.var 5) (.cons (.call "_law_no_page" (.cons (.var 0) .nil)) .nil)))) (.cons (.ite (.not (.call "_law_due" (.cons (.cst (.int 0)) (.cons (.var 2) (.cons (.lst (.cons (.var 7) (.cons (.var 8) (.cons (.idx (.lst (.cons (.cst .non) (.cons (.var 6) .nil))) (.call "_law_take" (.cons (.var 0) (.cons (.cst (.int 2)) .nil)))) .nil)))) (.cons (.cst (.str (st "page"))) (.cons (.var 7) .nil))))))) (.cons (.ret (.cst (.bl false))) .nil) .nil) .nil)) (.cons (.ite (.not (.call "_law_due" (.cons (.cst (.int 1)) (.cons (.var 2) (.cons (.lst (.cons (.var 7) .nil)) (.cons (.cst (.str (st "page"))) (.cons (.var 7) .nil))))))) (.cons (.ret (.cst (.bl false))) .nil) .nil) .nil))) (.cons (.for (.nm 3) (.rng (.cons (.cst (.int 6)) .nil)) (.cons (.set 9 (.call "_law_no_page" (.cons (.var 0) .nil))) (.cons (.ite (.not (.call "_law_due" (.cons (.cst (.int 0)) (.cons (.var 2) (.cons (.lst (.cons (.call "_law_take" (.cons (.var 0) (.cons (.var 1) .nil))) (.cons (.var 9) (.cons (.idx (.lst (.cons (.cst .non) (.cons (.var 6) .nil))) (.call "_law_take" (.cons (.var 0) (.cons (.cst (.int 2)) .nil)))) .nil)))) (.cons (.cst (.str (st "page"))) (.cons (.var 9) .nil))))))) (.cons (.ret (.cst (.bl false))) .nil) .nil) (.cons (.set 10 (.call "_law_take" (.cons (.var 0) (.cons (.var 1) .nil)))) (.cons (.set 11 (.idx (.lst (.cons (.bin .Add (.bin .Add (.slc (.var 4) .no (.var 10)) (.lst (.cons (.var 9) .nil))) (.slc (.var 4) (.var 10) .no)) (.cons (.blt .tuple (.cons (.bin .Add (.slc (.var 4) .no (.var 10)) (.lst (.cons (.var 9) (.cons (.cst .non) .nil)))) .nil)) .nil))) (.call "_law_take" (.cons (.var 0) (.cons (.cst (.int 2)) .nil))))) (.cons (.ite (.cmp .Lt (.blt .len (.cons (.var 11) .nil)) (.cst (.int 4))) (.cons (.set 11 (.bin .Add (.bin .Add (.bin .Add (.var 11) (.var 11)) (.var 11)) (.var 11))) .nil) .nil) (.cons (.ite (.not (.call "_law_due" (.cons (.cst (.int 3)) (.cons (.var 2) (.cons (.lst (.cons (.var 11) .nil)) (.cons (.cst (.str (st "disk"))) (.cons (.var 11) .nil))))))) (.cons (.ret (.cst (.bl false))) .nil) .nil) .nil))))))) (.cons (.ite (.or (.cons (.cmp .NotEq (.meth (.var 6) "written" .nil) (.cst (.int 0))) (.cons (.cmp .NotEq (.meth (.var 2) "pages" .nil) (.var 4)) (.cons (.not (.call "_law_due" (.cons (.cst (.int 0)) (.cons (.var 2) (.cons (.lst (.cons (.cst (.int 0)) (.cons (.var 5) (.cons (.mk "Power" (.cons (.cst (.int 0)) .nil)) .nil)))) (.cons (.cst (.str (st "dark"))) (.cons (.cst (.int 0)) .nil))))))) .nil)))) (.cons (.ret (.cst (.bl false))) .nil) .nil) (.cons (.ret (.cmp .Eq (.meth (.var 2) "pages" .nil) (.var 4))) .nil))))))))))⟩
def f__law_cell_at : Fn := ⟨["_law_script", "_law_k"], 2, 0, (.cons (.ite (.cmp .Lt (.var 1) (.blt .len (.cons (.var 0) .nil))) (.cons (.ret (.idx (.var 0) (.var 1))) .nil) .nil) (.cons (.ret (.bin .Add (.bin .Mult (.cst (.int 48271)) (.var 1)) (.cst (.int 61)))) .nil))⟩
def f__law_due : Fn := ⟨["_law_way", "_law_disk", "_law_things", "_law_word_here", "_law_thing"], 5, 0, (.cons (.ret (.cmp .Eq (.call "_law_refused" (.cons (.var 0) (.cons (.var 1) (.cons (.var 2) .nil)))) (.lst (.cons (.var 3) (.cons (.blt .repr (.cons (.var 4) .nil)) (.cons (.cst (.bl false)) (.cons (.cst (.bl true)) .nil))))))) .nil)⟩
def f__law_no_page : Fn := ⟨["_law_box_here"], 2, 0, (.cons (.set 1 (.lst (.cons (.cst .non) (.cons (.cst (.int 7)) (.cons (.cst (.str (st ""))) (.cons (.tup .nil) (.cons (.bin .Mult (.lst (.cons (.cst (.int 0)) .nil)) (.cst (.int 20))) (.cons (.bin .Mult (.tup (.cons (.cst (.int 0)) .nil)) (.cst (.int 19))) (.cons (.bin .Mult (.tup (.cons (.cst (.int 0)) .nil)) (.cst (.int 21))) (.cons (.bin .Add (.bin .Mult (.tup (.cons (.cst (.int 0)) .nil)) (.cst (.int 19))) (.tup (.cons (.neg (.cst (.int 1))) .nil))) (.cons (.bin .Add (.tup (.cons (.cst (.int 4294967296)) .nil)) (.bin .Mult (.tup (.cons (.cst (.int 0)) .nil)) (.cst (.int 19)))) (.cons (.dnew false) (.cons (.cst (.bl true)) .nil))))))))))))) (.cons (.ret (.idx (.bin .Add (.var 1) (.lst (.cons (.bin .Add (.bin .Mult (.tup (.cons (.cst (.int 0)) .nil)) (.cst (.int 19))) (.tup (.cons (.cst (.bl true)) .nil))) (.cons (.bin .Mult (.tup (.cons (.cst (.str (st "0"))) .nil)) (.cst (.int 20))) (.cons (.bin .Add (.bin .Add (.bin .Mult (.tup (.cons (.cst (.int 0)) .nil)) (.cst (.int 10))) (.tup (.cons (.cst .non) .nil))) (.bin .Mult (.tup (.cons (.cst (.int 0)) .nil)) (.cst (.int 9)))) .nil))))) (.call "_law_take" (.cons (.var 0) (.cons (.cst (.int 14)) .nil))))) .nil))⟩
def f__law_refused : Fn := ⟨["_law_way", "_law_disk", "_law_things"], 5, 0, (.cons (.set 3 (.cst .non)) (.cons (.try (.cons (.ex (.call "_law_asked" (.cons (.var 0) (.cons (.var 1) (.cons (.var 2) .nil))))) .nil) (.cons ["NoPage"] (some 4) (.cons (.set 3 (.lst (.cons (.cst (.str (st "page"))) (.cons (.blt .repr (.cons (.xfld "found") .nil)) (.cons (.xis ["NoDisk", "NoNumber", "Dark"]) (.cons (.xis ["LoreError"]) .nil)))))) .nil) (.cons ["NoDisk"] (some 4) (.cons (.set 3 (.lst (.cons (.cst (.str (st "disk"))) (.cons (.blt .repr (.cons (.xfld "found") .nil)) (.cons (.xis ["NoPage", "NoNumber", "Dark"]) (.cons (.xis ["LoreError"]) .nil)))))) .nil) (.cons ["NoNumber"] (some 4) (.cons (.set 3 (.lst (.cons (.cst (.str (st "number"))) (.cons (.blt .repr (.cons (.xfld "found") .nil)) (.cons (.xis ["NoPage", "NoDisk", "Dark"]) (.cons (.xis ["LoreError"]) .nil)))))) .nil) (.cons ["Dark"] (some 4) (.cons (.set 3 (.lst (.cons (.cst (.str (st "dark"))) (.cons (.blt .repr (.cons (.xfld "many") .nil)) (.cons (.xis ["NoPage", "NoDisk", "NoNumber"]) (.cons (.xis ["LoreError"]) .nil)))))) .nil) .nil)))) .nil) (.cons (.ret (.var 3)) .nil)))⟩
def f__law_take : Fn := ⟨["_law_box_here", "_law_many"], 4, 0, (.cons (.ite (.cmp .Gt (.idx (.var 0) (.cst (.int 0))) (.cst (.int 0))) (.cons (.set 3 (.bin .Mod (.idx (.var 0) (.cst (.int 0))) (.var 1))) (.cons (.sub (.var 0) (.cst (.int 0)) (.bin .FloorDiv (.idx (.var 0) (.cst (.int 0))) (.var 1))) (.cons (.ret (.var 3)) .nil))) .nil) (.cons (.sub (.var 0) (.cst (.int 2)) (.bin .Add (.idx (.var 0) (.cst (.int 2))) (.cst (.int 1)))) (.cons (.set 2 (.bin .Mod (.bin .Add (.bin .Add (.bin .Mult (.idx (.var 0) (.cst (.int 1))) (.cst (.int 40692))) (.bin .Mult (.cst (.int 10007)) (.idx (.var 0) (.cst (.int 2))))) (.cst (.int 13))) (.cst (.int 2147483647)))) (.cons (.set 2 (.bin .Mod (.bin .Mult (.bin .Add (.var 2) (.bin .Mult (.cst (.int 11)) (.idx (.var 0) (.cst (.int 2))))) (.var 2)) (.cst (.int 2147483629)))) (.cons (.ret (.bin .Mod (.bin .FloorDiv (.bin .Mod (.bin .Mult (.bin .Mod (.bin .Add (.bin .Mult (.var 2) (.cst (.int 69621))) (.cst (.int 8191))) (.cst (.int 2147483587))) (.bin .Add (.var 2) (.cst (.int 5)))) (.cst (.int 2147483579))) (.cst (.int 8))) (.var 1))) .nil)))))⟩
def f__law_word : Fn := ⟨["_law_box_here"], 2, 0, (.cons (.set 1 (.lst (.cons (.cst (.int 0)) (.cons (.cst (.int 1)) (.cons (.cst (.int 2)) (.cons (.cst (.int 4294967295)) (.cons (.bin .LShift (.cst (.int 1)) (.call "_law_take" (.cons (.var 0) (.cons (.cst (.int 32)) .nil)))) (.cons (.call "_law_take" (.cons (.var 0) (.cons (.cst (.int 4294967296)) .nil))) (.cons (.call "_law_take" (.cons (.var 0) (.cons (.cst (.int 400)) .nil))) .nil))))))))) (.cons (.ret (.idx (.var 1) (.call "_law_take" (.cons (.var 0) (.cons (.cst (.int 7)) .nil))))) .nil))⟩
def f_blank_page : Fn := ⟨[], 0, 0, (.cons (.ret (.bin .Mult (.tup (.cons (.cst (.int 0)) .nil)) (.glob "NUMBERS"))) .nil)⟩
def f_disk_of : Fn := ⟨["pages"], 4, 0, (.cons (.ite (.or (.cons (.not (.isi (.var 0) ["list", "tuple"])) (.cons (.not (.ch2 .LtE .LtE (.glob "LEAST") (.blt .len (.cons (.var 0) .nil)) (.glob "MOST_disks"))) .nil))) (.cons (.raise "NoDisk" (.cons (.var 0) .nil)) .nil) .nil) (.cons (.ite (.not (.blt .all (.cons (.lc [3] (.nm 3) (.ex (.var 0)) .no (.call "is_page" (.cons (.var 3) .nil))) .nil))) (.cons (.raise "NoDisk" (.cons (.var 0) .nil)) .nil) .nil) (.cons (.set 1 (.mk "Disk" (.cons (.blt .len (.cons (.var 0) .nil)) .nil))) (.cons (.for (.tp [(.nm 2), (.nm 3)]) (.enm (.var 0)) (.cons (.ex (.meth (.var 1) "write" (.cons (.var 2) (.cons (.var 3) .nil)))) .nil)) (.cons (.ret (.var 1)) .nil)))))⟩
def f_is_page : Fn := ⟨["thing"], 2, 0, (.cons (.ite (.or (.cons (.not (.isi (.var 0) ["tuple"])) (.cons (.cmp .NotEq (.blt .len (.cons (.var 0) .nil)) (.glob "NUMBERS")) .nil))) (.cons (.ret (.cst (.bl false))) .nil) .nil) (.cons (.ret (.blt .all (.cons (.lc [1] (.nm 1) (.ex (.var 0)) .no (.call "is_within" (.cons (.var 1) (.cons (.cst (.int 0)) (.cons (.glob "MOST_checks") .nil))))) .nil))) .nil))⟩
def f_is_whole : Fn := ⟨["thing"], 1, 0, (.cons (.ret (.and (.cons (.isi (.var 0) ["int"]) (.cons (.not (.isi (.var 0) ["bool"])) .nil)))) .nil)⟩
def f_is_within : Fn := ⟨["thing", "low", "high"], 3, 0, (.cons (.ret (.and (.cons (.call "is_whole" (.cons (.var 0) .nil)) (.cons (.ch2 .LtE .LtE (.var 1) (.var 0) (.var 2)) .nil)))) .nil)⟩
def f_law : Fn := ⟨["_law_script"], 5, 0, (.cons (.for (.nm 1) (.rng (.cons (.blt .max (.cons (.cst (.int 2)) (.cons (.blt .min (.cons (.cst (.int 6)) (.cons (.blt .len (.cons (.var 0) .nil)) .nil))) .nil))) .nil)) (.cons (.ite (.not (.call "_law_case" (.cons (.call "_law_box" (.cons (.call "_law_cell_at" (.cons (.var 0) (.cons (.var 1) .nil))) .nil)) .nil))) (.cons (.ret (.cst (.bl false))) .nil) .nil) .nil)) (.cons (.set 2 (.bin .Mult (.tup (.cons (.cst (.int 0)) .nil)) (.cst (.int 20)))) (.cons (.for (.nm 3) (.ex (.lst (.cons (.cst .non) (.cons (.cst (.int 3)) (.cons (.cst (.int 513)) (.cons (.cst (.int 0)) (.cons (.neg (.cst (.int 1))) (.cons (.cst (.bl true)) (.cons (.cst (.str (st "4"))) (.cons (.tup (.cons (.cst (.int 4)) .nil)) (.cons (.lst (.cons (.cst (.int 4)) .nil)) (.cons (.dnew false) (.cons (.bin .Pow (.cst (.int 10)) (.cst (.int 29))) .nil))))))))))))) (.cons (.ite (.not (.call "_law_due" (.cons (.cst (.int 2)) (.cons (.cst .non) (.cons (.lst (.cons (.var 3) .nil)) (.cons (.cst (.str (st "disk"))) (.cons (.var 3) .nil))))))) (.cons (.ret (.cst (.bl false))) .nil) .nil) .nil)) (.cons (.for (.nm 3) (.ex (.lst (.cons (.cst .non) (.cons (.cst (.int 7)) (.cons (.cst (.str (st ""))) (.cons (.tup .nil) (.cons (.bin .Mult (.lst (.cons (.var 2) .nil)) (.cst (.int 3))) (.cons (.bin .Mult (.tup (.cons (.var 2) .nil)) (.cst (.int 3))) (.cons (.dnew false) (.cons (.bin .Mult (.lst (.cons (.cst .non) .nil)) (.cst (.int 4))) (.cons (.cst (.str (st "aaaa"))) (.cons (.cst (.bl true)) (.cons (.bin .Mult (.lst (.cons (.blt .list (.cons (.var 2) .nil)) .nil)) (.cst (.int 4))) .nil))))))))))))) (.cons (.ite (.not (.call "_law_due" (.cons (.cst (.int 3)) (.cons (.cst .non) (.cons (.lst (.cons (.var 3) .nil)) (.cons (.cst (.str (st "disk"))) (.cons (.var 3) .nil))))))) (.cons (.ret (.cst (.bl false))) .nil) .nil) .nil)) (.cons (.for (.nm 3) (.ex (.lst (.cons (.neg (.cst (.int 1))) (.cons (.cst (.bl true)) (.cons (.cst (.bl false)) (.cons (.cst (.str (st "5"))) (.cons (.tup (.cons (.cst (.int 5)) .nil)) (.cons (.lst .nil) (.cons (.dnew false) (.cons (.neg (.bin .Pow (.cst (.int 10)) (.cst (.int 29)))) .nil)))))))))) (.cons (.ite (.not (.call "_law_due" (.cons (.cst (.int 4)) (.cons (.cst .non) (.cons (.lst (.cons (.var 3) .nil)) (.cons (.cst (.str (st "number"))) (.cons (.var 3) .nil))))))) (.cons (.ret (.cst (.bl false))) .nil) .nil) .nil)) (.cons (.set 4 (.meth (.mk "Disk" (.cons (.cst (.int 512)) .nil)) "pages" .nil)) (.cons (.ite (.or (.cons (.not (.call "_law_due" (.cons (.cst (.int 3)) (.cons (.cst .non) (.cons (.lst (.cons (.bin .Add (.var 4) (.slc (.var 4) .no (.cst (.int 1)))) .nil)) (.cons (.cst (.str (st "disk"))) (.cons (.bin .Add (.var 4) (.slc (.var 4) .no (.cst (.int 1)))) .nil))))))) (.cons (.cmp .NotEq (.meth (.call "disk_of" (.cons (.var 4) .nil)) "how_many" .nil) (.cst (.int 512))) .nil))) (.cons (.ret (.cst (.bl false))) .nil) .nil) (.cons (.ret (.and (.cons (.cmp .Eq (.meth (.mk "Disk" (.cons (.cst (.int 4)) .nil)) "pages" .nil) (.bin .Mult (.lst (.cons (.var 2) .nil)) (.cst (.int 4)))) (.cons (.cmp .Eq (.meth (.mk "Power" (.cons (.bin .Pow (.cst (.int 10)) (.cst (.int 29))) .nil)) "left_over" .nil) (.bin .Pow (.cst (.int 10)) (.cst (.int 29)))) (.cons (.cmp .Eq (.meth (.mk "Disk" (.cons (.cst (.int 512)) .nil)) "how_many" .nil) (.cst (.int 512))) .nil))))) .nil))))))))⟩
def f_Disk_init : Fn := ⟨["self", "many"], 3, 0, (.cons (.ite (.not (.call "is_within" (.cons (.var 1) (.cons (.glob "LEAST") (.cons (.glob "MOST_disks") .nil))))) (.cons (.raise "NoDisk" (.cons (.var 1) .nil)) .nil) .nil) (.cons (.fld (.var 0) "sheets" (.lc [2] (.nm 2) (.rng (.cons (.var 1) .nil)) .no (.blt .list (.cons (.call "blank_page" .nil) .nil)))) .nil))⟩
def f_Disk_how_many : Fn := ⟨["self"], 1, 0, (.cons (.ret (.blt .len (.cons (.fld (.var 0) "sheets") .nil))) .nil)⟩
def f_Disk_need_number : Fn := ⟨["self", "number"], 2, 0, (.cons (.ite (.not (.call "is_within" (.cons (.var 1) (.cons (.cst (.int 0)) (.cons (.bin .Sub (.blt .len (.cons (.fld (.var 0) "sheets") .nil)) (.cst (.int 1))) .nil))))) (.cons (.raise "NoPage" (.cons (.var 1) .nil)) .nil) .nil) .nil)⟩
def f_Disk_page_at : Fn := ⟨["self", "number"], 2, 0, (.cons (.ex (.meth (.var 0) "need_number" (.cons (.var 1) .nil))) (.cons (.ret (.blt .tuple (.cons (.idx (.fld (.var 0) "sheets") (.var 1)) .nil))) .nil))⟩
def f_Disk_pages : Fn := ⟨["self"], 2, 0, (.cons (.ret (.lc [1] (.nm 1) (.ex (.fld (.var 0) "sheets")) .no (.blt .tuple (.cons (.var 1) .nil)))) .nil)⟩
def f_Disk_write : Fn := ⟨["self", "number", "numbers", "power"], 6, 1, (.cons (.ex (.meth (.var 0) "need_number" (.cons (.var 1) .nil))) (.cons (.ite (.not (.call "is_page" (.cons (.var 2) .nil))) (.cons (.raise "NoPage" (.cons (.var 2) .nil)) .nil) .nil) (.cons (.ite (.cmp .Is (.var 3) (.cst .non)) (.cons (.set 3 (.mk "Power" .nil)) .nil) .nil) (.cons (.for (.tp [(.nm 4), (.nm 5)]) (.enm (.var 2)) (.cons (.ex (.meth (.var 3) "spend" .nil)) (.cons (.sub (.idx (.fld (.var 0) "sheets") (.var 1)) (.var 4) (.var 5)) .nil))) .nil))))⟩
def f_Power_init : Fn := ⟨["self", "many"], 2, 1, (.cons (.ite (.and (.cons (.cmp .IsNot (.var 1) (.cst .non)) (.cons (.or (.cons (.not (.call "is_whole" (.cons (.var 1) .nil))) (.cons (.cmp .Lt (.var 1) (.cst (.int 0))) .nil))) .nil))) (.cons (.raise "NoNumber" (.cons (.var 1) .nil)) .nil) .nil) (.cons (.fld (.var 0) "limit" (.var 1)) (.cons (.fld (.var 0) "spent" (.cst (.int 0))) .nil)))⟩
def f_Power_left_over : Fn := ⟨["self"], 1, 0, (.cons (.ite (.cmp .Is (.fld (.var 0) "limit") (.cst .non)) (.cons (.ret (.cst .non)) .nil) .nil) (.cons (.ret (.bin .Sub (.fld (.var 0) "limit") (.fld (.var 0) "spent"))) .nil))⟩
def f_Power_spend : Fn := ⟨["self"], 1, 0, (.cons (.ite (.cmp .Eq (.fld (.var 0) "limit") (.fld (.var 0) "spent")) (.cons (.raise "Dark" (.cons (.fld (.var 0) "spent") .nil)) .nil) .nil) (.cons (.augF (.var 0) "spent" .Add (.cst (.int 1))) .nil))⟩
def f_Power_written : Fn := ⟨["self"], 1, 0, (.cons (.ret (.fld (.var 0) "spent")) .nil)⟩
def tabD : List (String × Fn) := [("_law_asked", f__law_asked), ("_law_box", f__law_box), ("_law_case", f__law_case), ("_law_cell_at", f__law_cell_at), ("_law_due", f__law_due), ("_law_no_page", f__law_no_page), ("_law_refused", f__law_refused), ("_law_take", f__law_take), ("_law_word", f__law_word), ("blank_page", f_blank_page), ("disk_of", f_disk_of), ("is_page", f_is_page), ("is_whole", f_is_whole), ("is_within", f_is_within), ("law", f_law)]
def tabM : List ((String × String) × Fn) := [(("Disk", "__init__"), f_Disk_init), (("Disk", "how_many"), f_Disk_how_many), (("Disk", "need_number"), f_Disk_need_number), (("Disk", "page_at"), f_Disk_page_at), (("Disk", "pages"), f_Disk_pages), (("Disk", "write"), f_Disk_write), (("Power", "__init__"), f_Power_init), (("Power", "left_over"), f_Power_left_over), (("Power", "spend"), f_Power_spend), (("Power", "written"), f_Power_written)]
def tabE : List (String × List String) := [("Dark", ["many"]), ("NoDisk", ["found"]), ("NoNumber", ["found"]), ("NoPage", ["found"])]
def tabU : List (String × List String) := [("Dark", ["Dark", "LoreError", "ValueError"]), ("Disk", ["Disk"]), ("LoreError", ["LoreError", "ValueError"]), ("NoDisk", ["NoDisk", "LoreError", "ValueError"]), ("NoNumber", ["NoNumber", "LoreError", "ValueError"]), ("NoPage", ["NoPage", "LoreError", "ValueError"]), ("Power", ["Power"])]
def tabC : List (String × A) := [("LEAST", .int 4), ("MOST_checks", .int 4294967295), ("MOST_disks", .int 512), ("NUMBERS", .int 20)]
def tabF : List (String × List String) := [("Disk", ["sheets"]), ("Power", ["limit", "spent"])]
def cnL : List String := ["Dark", "LoreError", "NoDisk", "NoNumber", "NoPage", "bool", "int", "list", "tuple"]
def obL : List String := ["Disk", "Power"]
def pg : Pg := ⟨fun x => tabD.lookup x, fun C m => tabM.lookup (C, m), fun c => (tabU.lookup c).getD [], fun c => tabE.lookup c, fun x => tabC.lookup x, fun C => (tabF.lookup C).getD [], fun c => cnL.contains c⟩
end My

namespace My
open Z PySem L2
section
variable {k : Nat} {h : Hh} {n : Nat} {Q : QV} {X : XQ}
theorem take_ok {m : Int} (hb : Bx h n) (hm : 0 < m) (hm2 : m < 18446744073709551616)
    (hQ : ∀ r h', 0 ≤ r → r < m → Ke [n] h h' → h.length ≤ h'.length → Bx h' n → Q (.int r) h') : Γ pg (k + 1) (.d "_law_take") [.ref n, .int m] h Q X := by
  obtain ⟨a, b, c, hn⟩ := hb
  refine Γ_def (fn := f__law_take) rfl rfl ?_
  unfold f__law_take
  (fail "zs")
  all_goals exact hQ _ _ (Int.emod_nonneg _ (by omega)) (Int.emod_lt_of_pos _ hm) (by (fail "ke")) (by omega) ⟨_, _, _, by assumption⟩
set_option hygiene false in
local macro_rules | `(tactic| fail "zc") => `(tactic| (with_reducible apply take_ok); (· (fail "bx")); (· (fail "num")); (· (fail "num")))
theorem cell_ok {ns : List Int} {i : Int} (h0 : 0 ≤ i) (h1 : i < 100) (hQ : ∀ c, Q (.int c) h) : Γ pg (k + 1) (.d "_law_cell_at") [.fro (ns.map A.int), .int i] h Q X := by
  refine Γ_def (fn := f__law_cell_at) rfl rfl ?_
  unfold f__law_cell_at
  (fail "zs")
  · rw [List.length_map] at hc
    obtain ⟨c, e, _⟩ := atI_ints h0 hc
    exact ix_f e (hQ c)
  · exact hQ _
set_option hygiene false in
local macro_rules | `(tactic| fail "zc") => `(tactic| (with_reducible apply cell_ok); (· (fail "num")); (· (fail "num")))
theorem box_ok {c : Int} (hQ : ∀ h', Bx h' h.length → Ke [] h h' → h.length < h'.length → Q (.ref h.length) h') : Γ pg (k + 1) (.d "_law_box") [.int c] h Q X := by
  refine Γ_def (fn := f__law_box) rfl rfl ?_
  unfold f__law_box
  (fail "zs")
  exact hQ _ ⟨_, _, _, by assumption⟩ (by assumption) (by omega)
end
set_option hygiene false in
local macro_rules | `(tactic| fail "zc") => `(tactic| (with_reducible apply take_ok); (· (fail "bx")); (· (fail "num")); (· (fail "num")))
set_option hygiene false in
local macro_rules | `(tactic| fail "zc") => `(tactic| (with_reducible apply cell_ok); (· (fail "num")); (· (fail "num")))
end My
set_option hygiene false in
local macro_rules | `(tactic| fail "zc") => `(tactic| (with_reducible apply take_ok); (· (fail "bx")); (· (fail "num")); (· (fail "num")))
set_option hygiene false in
local macro_rules | `(tactic| fail "zc") => `(tactic| (with_reducible apply cell_ok); (· (fail "num")); (· (fail "num")))

/-! texts by their signs -/
namespace My
open Z PySem L2
abbrev tx (l : List Nat) : PySem.Str := ⟨l.toArray⟩
theorem tx_of (z : PySem.Str) : z = tx z.cps.toList := by
  cases z; simp [tx]
theorem tx_inj {l m : List Nat} : tx l = tx m ↔ l = m := by
  constructor
  · intro e
    have := congrArg (fun z : PySem.Str => z.cps.toList) e
    simpa using this
  · rintro rfl; rfl
theorem tx_app {l m : List Nat} : (tx l ++ tx m : PySem.Str) = tx (l ++ m) := by
  show (⟨l.toArray ++ m.toArray⟩ : PySem.Str) = _
  simp
theorem tx_len {l : List Nat} : (tx l).length = l.length := by
  show l.toArray.size = _
  simp
theorem tx_cut {l : List Nat} {n : Int} (h : 0 ≤ n) : cutS (tx l) none (some n) = tx (l.take n.toNat) := by
  have e := cut_to (xs := l) h
  unfold cutA at e
  unfold cutS
  rw [tx_len, tx_inj]
  simpa using e
theorem b_addTx {h : Hh} {Q : QV} {l m : List Nat} (s : l.length + m.length ≤ 1000) (q : Q (.str (tx (l ++ m))) h) : binW .Add (.str (tx l)) (.str (tx m)) h Q := b_addS (by rw [tx_len, tx_len, sizeLine_eq]; omega) (by rw [tx_app]; exact q)
theorem sl_tx {h : Hh} {Q : QV} {l : List Nat} {n : Int} (h0 : 0 ≤ n) (s : l.length ≤ 1000) (q : Q (.str (tx (l.take n.toNat))) h) : slcW (.str (tx l)) none (some n) h Q := sl_s (by rw [tx_len, sizeLine_eq]; omega) (by rw [tx_cut h0]; exact q)
abbrev abc : PySem.Str := st "abcdefghijklmnopqrstuvwxyz"
theorem abc_tx : abc = tx ((List.range 26).map (97 + ·)) := by decide +kernel
theorem atI_abc {i : Int} (h0 : 0 ≤ i) (h1 : i < 26) : L2.atI abc.cps.toList i = some (97 + i.toNat) := by
  rw [abc_tx]
  obtain ⟨v, a, _, b⟩ := atI_any (l := (List.range 26).map (97 + ·)) h0 (by simpa using h1)
  rw [List.getElem?_map, List.getElem?_range (by omega)] at b
  cases b
  simpa using a
theorem ix_abc {h : Hh} {Q : QV} {i : Int} (h0 : 0 ≤ i) (h1 : i < 26) (q : Q (.str (tx [97 + i.toNat])) h) : idxW (.str abc) (.int i) h Q := by
  refine ⟨by rw [abc_tx, tx_len, sizeLine_eq]; simp, _, atI_abc h0 h1, q⟩
end My

/-! whole numbers, by their data -/
namespace My
open Z PySem L2
section
variable {k : Nat} {h : Hh} {Q : QV} {X : XQ}
def isI : PyData → Bool
  | .int _ => true
  | _ => false
theorem whole_ok {v : A} {d : PyData} (w : Da h v d) (hQ : Q (.bl (isI d)) h) : Γ pg (k + 1) (.d "is_whole") [v] h Q X := by
  refine Γ_def (fn := f_is_whole) rfl rfl ?_
  unfold f_is_whole
  cases w <;> (fail "zs") <;> exact hQ
theorem whole_int {i : Int} (hQ : Q (.bl true) h) : Γ pg (k + 1) (.d "is_whole") [.int i] h Q X := whole_ok (.int i) hQ
set_option hygiene false in
local macro_rules | `(tactic| fail "zc") => `(tactic| (with_reducible apply whole_ok); (· (fail "da")))
set_option hygiene false in
local macro_rules | `(tactic| fail "zc") => `(tactic| with_reducible refine whole_int ?_)
end
set_option hygiene false in
local macro_rules | `(tactic| fail "zc") => `(tactic| (with_reducible apply whole_ok); (· (fail "da")))
set_option hygiene false in
local macro_rules | `(tactic| fail "zc") => `(tactic| with_reducible refine whole_int ?_)
end My
set_option hygiene false in
local macro_rules | `(tactic| fail "zc") => `(tactic| (with_reducible apply whole_ok); (· (fail "da")))
set_option hygiene false in
local macro_rules | `(tactic| fail "zc") => `(tactic| with_reducible refine whole_int ?_)

/-! numbers within bounds, by their data -/
namespace My
open Z PySem L2
section
variable {k : Nat} {h : Hh} {Q : QV} {X : XQ}
def wiD (d : PyData) (lo hi : Int) : Bool := match d with
  | .int i => decide (lo ≤ i ∧ i ≤ hi)
  | _ => false
theorem within_ok {v : A} {d : PyData} {lo hi : Int} (w : Da h v d) (hQ : Q (.bl (wiD d lo hi)) h) : Γ pg (k + 2) (.d "is_within") [v, .int lo, .int hi] h Q X := by
  refine Γ_def (fn := f_is_within) rfl rfl ?_
  unfold f_is_within
  cases w with
  | int i =>
    (fail "zs")
    · rw [show wiD (.int i) lo hi = decide (i ≤ hi) by simp [wiD, hc]] at hQ
      exact hQ
    · rw [show wiD (.int i) lo hi = false by simp [wiD, hc]] at hQ
      exact hQ
  | _ => (fail "zs") <;> exact hQ
theorem within_int {i lo hi : Int} (hQ : Q (.bl (decide (lo ≤ i ∧ i ≤ hi))) h) : Γ pg (k + 2) (.d "is_within") [.int i, .int lo, .int hi] h Q X := within_ok (.int i) hQ
set_option hygiene false in
local macro_rules | `(tactic| fail "zc") => `(tactic| (with_reducible apply within_ok); (· (fail "da")))
set_option hygiene false in
local macro_rules | `(tactic| fail "zc") => `(tactic| with_reducible refine within_int ?_)
theorem wiD_iff {d : PyData} {lo hi : Int} : wiD d lo hi = true ↔ ∃ i, d = .int i ∧ lo ≤ i ∧ i ≤ hi := by
  cases d with
  | int i => simp [wiD]
  | _ => simp [wiD]
end
set_option hygiene false in
local macro_rules | `(tactic| fail "zc") => `(tactic| (with_reducible apply within_ok); (· (fail "da")))
set_option hygiene false in
local macro_rules | `(tactic| fail "zc") => `(tactic| with_reducible refine within_int ?_)
end My
set_option hygiene false in
local macro_rules | `(tactic| fail "zc") => `(tactic| (with_reducible apply within_ok); (· (fail "da")))
set_option hygiene false in
local macro_rules | `(tactic| fail "zc") => `(tactic| with_reducible refine within_int ?_)

/-! things that stand as they are -/
namespace Z
open PySem L2
/-- a comprehension: each thing gives one, known by its place -/
theorem lc_each {pg : Pg} {k : Nat} {xx : Xx} {σ : SA} {vs : List Nat} {tg : Tg} {c elt : E} {G : Gd} {Q : Hh → Prop} {xs : List A} {h0 : Hh} (P : Nat → A → Hh → Prop) (st : ∀ i y h h', Ke [h0.length] h h' → P i y h → P i y h') (hl : xs.length ≤ 2 ^ 20) (hG : ∀ h', Ke [] h0 h' → gdOk G h')
    (step : ∀ (i : Nat) x h, xs[i]? = some x → Ke [] h0 h → h0.length < h.length → lcSt pg (Γ pg k) xx σ vs tg c elt x h fun o h1 => Ok (∃ y, o = some y ∧ P i y h1 ∧ Ke [] h h1))
    (done : ∀ (acc : List A) h, acc.length = xs.length → (∀ (i : Nat) y, acc[i]? = some y → P i y h) → Ke [] h0 h → h0.length < h.length → h[h0.length]? = some (.lst acc) → Q h) :
    lcA G h0.length (lcSt pg (Γ pg k) xx σ vs tg c elt) Q xs (h0 ++ [.lst []]) := by
  refine lc_inv [] (fun i acc h => acc.length = i ∧ ∀ (i : Nat) y, acc[i]? = some y → P i y h) kc0 hl hG (fun h' k _ => ⟨rfl, (fun i y e => by simp at e)⟩) ?_ ?_
  · intro i x acc h e a1 a2 a3 a4 a5
    refine lcSt_mono ?_ (step i x h e a3 a4)
    rintro o h1 ⟨⟨y, rfl, b1, b2⟩⟩
    refine Ok.mk ⟨b2, fun h2 k2 l2 => ⟨by rw [List.length_append, a2.1]; rfl, ?_⟩⟩
    intro j z ez
    by_cases hj : j < acc.length
    · rw [List.getElem?_append_left hj] at ez
      exact st _ _ _ _ k2 (st _ _ _ _ b2.up (a2.2 j z ez))
    · rw [List.getElem?_append_right (by omega)] at ez
      have := get_lt ez
      simp only [List.length_cons, List.length_nil] at this
      have e0 : j - acc.length = 0 := by omega
      rw [e0] at ez
      cases ez
      have : j = i := by have := a2.1; omega
      rw [this]
      exact st _ _ _ _ k2 b1
  · intro acc h a1 a2 a3 a4 _
    exact done acc h a1.1 a1.2 a2 a3 a4
/-- a comprehension with a test that keeps things as they are -/
theorem lc_keep {pg : Pg} {k : Nat} {xx : Xx} {σ : SA} {vs : List Nat} {tg : Tg} {c elt : E} {G : Gd} {Q : Hh → Prop} {xs : List A} {h0 : Hh} (W : Nat → Prop) (hl : xs.length ≤ 2 ^ 20) (hG : ∀ h', Ke [] h0 h' → gdOk G h')
    (step : ∀ (i : Nat) x h, xs[i]? = some x → Ke [] h0 h → h0.length < h.length → lcSt pg (Γ pg k) xx σ vs tg c elt x h fun o h1 => Ok (Ke [] h h1 ∧ ((o = some x ∧ W i) ∨ (o = none ∧ ¬ W i))))
    (done : ∀ (acc : List A) h, (∀ y ∈ acc, y ∈ xs) → (acc = [] ↔ ∀ i < xs.length, ¬ W i) → acc.length ≤ xs.length → Ke [] h0 h → h0.length < h.length → h[h0.length]? = some (.lst acc) → Q h) :
    lcA G h0.length (lcSt pg (Γ pg k) xx σ vs tg c elt) Q xs (h0 ++ [.lst []]) := by
  refine lc_inv [] (fun i acc h => (∀ y ∈ acc, y ∈ xs) ∧ (acc = [] ↔ ∀ j < i, ¬ W j)) kc0 hl hG (fun h' k _ => ⟨(fun y m => by cases m), by simp⟩) ?_ ?_
  · intro i x acc h e a1 a2 a3 a4 a5
    refine lcSt_mono ?_ (step i x h e a3 a4)
    rintro o h1 ⟨⟨b1, ⟨rfl, w⟩ | ⟨rfl, w⟩⟩⟩
    · refine Ok.mk ⟨b1, fun h2 k2 l2 => ⟨mem_snoc a2.1 (List.mem_of_getElem? e), ?_⟩⟩
      constructor
      · intro z
        simp at z
      · intro z
        exact absurd w (z i (Nat.lt_succ_self _))
    · refine Ok.mk ⟨b1, a2.1, ?_⟩
      rw [a2.2]
      constructor
      · intro z j hj
        rcases Nat.lt_succ_iff_lt_or_eq.mp hj with hj | rfl
        · exact z j hj
        · exact w
      · exact fun z j hj => z j (Nat.lt_succ_of_lt hj)
  · intro acc h a1 a2 a3 a4 al
    exact done acc h a1.1 a1.2 al a2 a3 a4
theorem DnL.of {S : List Nat} {h : Hh} {e : Nat} : ∀ {xs : List A}, (∀ x ∈ xs, ∃ d, Dn S h x d ∧ Ly d e) → ∃ ds, DnL S h xs ds ∧ LyL ds e
  | [], _ => ⟨[], .nil, lyl_nil⟩
  | x :: r, hx => by
    obtain ⟨d, w, l⟩ := hx x List.mem_cons_self
    obtain ⟨ds, ws, ls⟩ := DnL.of (xs := r) fun y m => hx y (List.mem_cons_of_mem _ m)
    exact ⟨d :: ds, .cons w ws, lyl_cons l ls⟩
theorem DnL.get {S : List Nat} {h : Hh} : ∀ {xs : List A} {ds : List PyData} {i : Nat} {x : A}, DnL S h xs ds → xs[i]? = some x → ∃ d, ds[i]? = some d ∧ Dn S h x d
  | _, _, 0, _, .cons a _, e => by cases e; exact ⟨_, rfl, a⟩
  | _, _, i + 1, _, .cons _ r, e => by
    rw [List.getElem?_cons_succ] at e ⊢
    exact r.get e
theorem LyL.mem {e : Nat} : ∀ {ds : List PyData}, LyL ds e → ∀ d ∈ ds, Ly d e
  | d :: ds, ⟨a, b⟩, x, m => by
    simp only [PyData.canLayAll0, PyData.depthAll, Bool.and_eq_true] at a b
    rcases List.mem_cons.mp m with z | z
    · subst z; exact ⟨a.1, by omega⟩
    · exact LyL.mem (ds := ds) ⟨a.2, by omega⟩ x z
theorem Ly.list {ds : List PyData} {e : Nat} (l : Ly (.list ds) e) : LyL ds e := ⟨by have := l.lay; simpa only [PyData.canLay0] using this, by have := l.dp; simp only [PyData.depth] at this; omega⟩
theorem Ly.tuple {ds : List PyData} {e : Nat} (l : Ly (.tuple ds) e) : LyL ds e := ⟨by have := l.lay; simpa only [PyData.canLay0] using this, by have := l.dp; simp only [PyData.depth] at this; omega⟩
theorem bools_of : ∀ {l : List A}, (∀ v ∈ l, ∃ b, v = .bl b) → ∃ bs : List Bool, l = bs.map A.bl
  | [], _ => ⟨[], rfl⟩
  | x :: r, h => by
    obtain ⟨a, rfl⟩ := h x List.mem_cons_self
    obtain ⟨ns, rfl⟩ := bools_of (l := r) fun v m => h v (List.mem_cons_of_mem _ m)
    exact ⟨a :: ns, rfl⟩
end Z

/-! ### pages -/
namespace My
open Z PySem L2
section
variable {k : Nat} {h : Hh} {n : Nat} {Q : QV} {X : XQ}
def W (n : Int) : Prop := 0 ≤ n ∧ n < 4294967296
def Ws (ns : List Int) : Prop := ∀ x ∈ ns, W x
def pageD : PyData → Bool
  | .tuple ds => decide (ds.length = 20) && ds.all (fun d => wiD d 0 4294967295)
  | _ => false
theorem page_ok {v : A} {d : PyData} (w : Da h v d) (hQ : ∀ h', Ke [] h h' → h.length ≤ h'.length → Q (.bl (pageD d)) h') : Γ pg (k + 3) (.d "is_page") [v] h Q X := by
  refine Γ_def (fn := f_is_page) rfl rfl ?_
  unfold f_is_page
  cases w
  case tup xs ds t | kt xs ds t =>
    have hl := t.len
    (fail "zs")
    · have h20 : ds.length ≠ 20 := by omega
      have e0 : pageD (.tuple ds) = false := by simp [pageD, h20]
      exact e0 ▸ hQ h Ke.refl (Nat.le_refl _)
    refine lc_inv [] (fun i acc _ => acc = ((ds.take i).map (fun d => wiD d 0 4294967295)).map A.bl) kc0 (by omega) (fun _ _ => gd0) (fun _ _ _ => rfl) ?_ ?_
    · intro i x acc h1 e a1 a2 a3 a4 a5
      obtain ⟨d, ed, wd⟩ := t.get e
      have wd := Da.ke a3 wd
      (fail "zs")
      refine ⟨⟨Ke.refl, ?_⟩⟩
      intro h2 _ _
      rw [take_snoc ed, a2]
      simp
    · intro acc h1 a1 a2 a3 a4 a5
      rw [hl, List.take_length] at a1
      subst a1
      (fail "zs")
      have e : pageD (.tuple ds) = ds.all fun d => wiD d 0 4294967295 := by
        have : ds.length = 20 := by omega
        simp [pageD, this]
      rw [← e]
      exact hQ _ (by (fail "ke")) (by omega)
  all_goals
    (fail "zs")
    exact hQ h Ke.refl (Nat.le_refl _)
set_option hygiene false in
local macro_rules | `(tactic| fail "zc") => `(tactic| (with_reducible apply page_ok); (· (fail "da")))
theorem blank_ok (hQ : Q (.tup ((List.replicate 20 (0 : Int)).map A.int)) h) : Γ pg (k + 1) (.d "blank_page") [] h Q X := by
  refine Γ_def (fn := f_blank_page) rfl rfl ?_
  unfold f_blank_page
  (fail "zs")
  exact hQ
set_option hygiene false in
local macro_rules | `(tactic| fail "zc") => `(tactic| with_reducible refine blank_ok ?_)
theorem pageD_ints {ns : List Int} (hl : ns.length = 20) (hw : Ws ns) : pageD (.tuple (ns.map PyData.int)) = true := by
  have e : (ns.map PyData.int).all (fun d => wiD d 0 4294967295) = true := by
    rw [List.all_eq_true]
    intro d m
    obtain ⟨a, ha, rfl⟩ := List.mem_map.mp m
    have := hw a ha
    have h1 := this.1
    have h2 := this.2
    simp only [wiD, decide_eq_true_eq]
    omega
  simp only [pageD, List.length_map, hl, e]
  rfl
theorem page_int {ns : List Int} (hl : ns.length = 20) (hw : Ws ns) (hQ : ∀ h', Ke [] h h' → h.length ≤ h'.length → Q (.bl true) h') : Γ pg (k + 3) (.d "is_page") [.tup (ns.map A.int)] h Q X :=
  page_ok (.tup (DaL.ints ns)) fun h' a b => by rw [pageD_ints hl hw]; exact hQ h' a b
set_option hygiene false in
local macro_rules | `(tactic| fail "zc") => `(tactic| (with_reducible apply page_int); (· assumption); (· assumption))
end
set_option hygiene false in
local macro_rules | `(tactic| fail "zc") => `(tactic| (with_reducible apply page_ok); (· (fail "da")))
set_option hygiene false in
local macro_rules | `(tactic| fail "zc") => `(tactic| with_reducible refine blank_ok ?_)
set_option hygiene false in
local macro_rules | `(tactic| fail "zc") => `(tactic| (with_reducible apply page_int); (· assumption); (· assumption))
end My
set_option hygiene false in
local macro_rules | `(tactic| fail "zc") => `(tactic| (with_reducible apply page_ok); (· (fail "da")))
set_option hygiene false in
local macro_rules | `(tactic| fail "zc") => `(tactic| with_reducible refine blank_ok ?_)
set_option hygiene false in
local macro_rules | `(tactic| fail "zc") => `(tactic| (with_reducible apply page_int); (· assumption); (· assumption))

/-! disks and power -/
namespace My
open Z PySem L2
abbrev pgA (ns : List Int) : A := .tup (ns.map A.int)
abbrev pgD (ns : List Int) : PyData := .tuple (ns.map PyData.int)
def z20 : List Int := List.replicate 20 0
abbrev PwO (l : A) (s : Int) : O := .ins "Power" [("limit", l), ("spent", .int s)]
/-- a page's numbers -/
def PgI (ns : List Int) : Prop := ns.length = 20 ∧ Ws ns
theorem pgi_z : PgI z20 := ⟨rfl, fun x m => by rw [List.eq_of_mem_replicate m]; exact ⟨by decide, by decide⟩⟩
structure Dk (h : Hh) (f s : Nat) (rs : List Nat) (rows : List (List Int)) : Prop where
  obj : h[f]? = some (.ins "Disk" [("sheets", .ref s)])
  sh : h[s]? = some (.lst (rs.map A.ref))
  row : ∀ (i : Nat) (r : Nat) (ns : List Int), rs[i]? = some r → rows[i]? = some ns → h[r]? = some (.lst (ns.map A.int))
  len : rs.length = rows.length
  nd : rs.Nodup
  low : f < s ∧ ∀ r ∈ rs, s < r
  pg : ∀ ns ∈ rows, PgI ns
  few : 4 ≤ rows.length ∧ rows.length ≤ 512
theorem Dk.keN {S : List Nat} {h h' : Hh} {f s : Nat} {rs : List Nat} {rows : List (List Int)} (d : Dk h f s rs rows) (k : Ke S h h') (n : ∀ x ∈ S, x ≠ f ∧ x ≠ s ∧ x ∉ rs) : Dk h' f s rs rows :=
  ⟨k.get (fun m => (n _ m).1 rfl) d.obj, k.get (fun m => (n _ m).2.1 rfl) d.sh, fun i r ns e1 e2 => k.get (fun m => (n _ m).2.2 (List.mem_of_getElem? e1)) (d.row i r ns e1 e2), d.len, d.nd, d.low, d.pg, d.few⟩
theorem Dk.ke {S : List Nat} {h h' : Hh} {f s : Nat} {rs : List Nat} {rows : List (List Int)} (d : Dk h f s rs rows) (k : Ke S h h') (n : ∀ x ∈ S, x < f) : Dk h' f s rs rows :=
  d.keN k fun x m => by
    have a := n x m
    have b := d.low.1
    exact ⟨by omega, by omega, fun c => by have := d.low.2 x c; omega⟩
theorem Dk.ke0 {h h' : Hh} {f s : Nat} {rs : List Nat} {rows : List (List Int)} (d : Dk h f s rs rows) (k : Ke [] h h') : Dk h' f s rs rows := d.ke k fun _ m => by cases m
section
variable {k : Nat} {h : Hh} {n : Nat} {Q : QV} {X : XQ} {f s : Nat} {rs : List Nat} {rows : List (List Int)}
theorem disk_no {d : PyData} {v : A} (w : Da h v d) (hn : h[n]? = some (.ins "Disk" [])) (no : wiD d 4 512 = false) (hX : ∀ h', Ke [] h h' → X true "NoDisk" [("found", v)] h') : Γ pg (k + 3) (.m "Disk" "__init__") [.ref n, v] h Q X := by
  refine Γ_meth (fn := f_Disk_init) rfl rfl ?_
  unfold f_Disk_init
  (fail "zs")
  · exact hX _ (by (fail "ke"))
  all_goals exact absurd (no.symm.trans ‹_›) (by decide)
theorem disk_ok {m : Nat} (hn : h[n]? = some (.ins "Disk" [])) (m1 : 4 ≤ m) (m2 : m ≤ 512) (hQ : ∀ h' s rs, Ke [n] h h' → h.length ≤ s → h.length ≤ h'.length → (∀ r ∈ rs, r < h'.length) → s < h'.length → Dk h' n s rs (List.replicate m z20) → Q .non h') : Γ pg (k + 3) (.m "Disk" "__init__") [.ref n, .int m] h Q X := by
  have hl := lt_of_get hn
  refine Γ_meth (fn := f_Disk_init) rfl rfl ?_
  unfold f_Disk_init
  (fail "zs")
  refine lc_inv [] (fun i acc h' => ∃ rs : List Nat, acc = rs.map A.ref ∧ rs.length = i ∧ rs.Nodup ∧ ∀ r ∈ rs, h.length < r ∧ r < h'.length ∧ h'[r]? = some (.lst (z20.map A.int))) kc0 (by rw [rngA_len]; omega) (fun _ _ => gd0) (fun _ _ _ => ⟨[], rfl, rfl, List.nodup_nil, fun _ m => by cases m⟩) ?_ ?_
  · intro i x acc h1 e a1 a2 a3 a4 a5
    obtain ⟨rs, rfl, b1, b2, b3⟩ := a2
    (fail "zs")
    rename_i h2 k2 l2 g2
    refine ⟨⟨by (fail "ke"), ?_⟩⟩
    intro h3 k3 l3
    refine ⟨rs ++ [h1.length], by simp, by simp [b1], ?_, ?_⟩
    · rw [List.nodup_append]
      exact ⟨b2, (by simp), fun a ma b mb => by
        have := List.mem_singleton.mp mb
        have := b3 a ma
        omega⟩
    · intro r m
      rcases List.mem_append.mp m with m | m
      · obtain ⟨c1, c2, c3⟩ := b3 r m
        exact ⟨c1, by omega, k3.get (nm1 (by omega)) (k2.get nm0 c3)⟩
      · have := List.mem_singleton.mp m
        subst this
        exact ⟨by omega, by omega, k3.get (nm1 (by omega)) g2⟩
  · intro acc h1 a1 a2 a3 a4 a5
    obtain ⟨rs, rfl, b1, b2, b3⟩ := a1
    rw [rngA_len] at b1
    (fail "zs")
    rename_i h2 k2 l2 g2
    refine hQ _ h.length rs (by (fail "ke")) (Nat.le_refl _) (by omega) (fun r m => by have := b3 r m; omega) (by omega) ?_
    refine ⟨by (fail "hg"), by (fail "hg"), ?_, by rw [List.length_replicate]; omega, b2, ⟨hl, fun r m => (b3 r m).1⟩, ?_, by rw [List.length_replicate]; exact ⟨m1, m2⟩⟩
    · intro i r ns e1 e2
      have m := List.mem_of_getElem? e1
      rw [List.eq_of_mem_replicate (List.mem_of_getElem? e2)]
      have c := b3 r m
      exact k2.get (nm1 (by omega)) c.2.2
    · intro ns m
      rw [List.eq_of_mem_replicate m]
      exact pgi_z
theorem need_ok {i : Nat} (d : Dk h f s rs rows) (hi : i < rows.length) (hQ : ∀ h', Ke [] h h' → Q .non h') : Γ pg (k + 3) (.m "Disk" "need_number") [.ref f, .int i] h Q X := by
  have e1 := d.obj
  have e2 := d.sh
  have e3 := d.len
  have e4 := d.few
  refine Γ_meth (fn := f_Disk_need_number) rfl rfl ?_
  unfold f_Disk_need_number
  (fail "zs")
  exact hQ _ (by (fail "ke"))
theorem need_no {v : A} {dt : PyData} (d : Dk h f s rs rows) (w : Da h v dt) (no : wiD dt 0 (rows.length - 1) = false) (hX : ∀ h', Ke [] h h' → X true "NoPage" [("found", v)] h') : Γ pg (k + 3) (.m "Disk" "need_number") [.ref f, v] h Q X := by
  have e1 := d.obj
  have e2 := d.sh
  have e3 := d.len
  have e4 := d.few
  have e6 : wiD dt 0 (rs.length - 1) = false := by rw [e3]; exact no
  refine Γ_meth (fn := f_Disk_need_number) rfl rfl ?_
  unfold f_Disk_need_number
  (fail "zs")
  · exact hX _ (by (fail "ke"))
theorem pages_ok (d : Dk h f s rs rows) (hQ : ∀ h' p, Ke [] h h' → h.length ≤ p → p < h'.length → h'[p]? = some (.lst (rows.map pgA)) → Q (.ref p) h') : Γ pg (k + 1) (.m "Disk" "pages") [.ref f] h Q X := by
  have e1 := d.obj
  have e2 := d.sh
  have e3 := d.len
  have e4 := d.few
  refine Γ_meth (fn := f_Disk_pages) rfl rfl ?_
  unfold f_Disk_pages
  (fail "zs")
  refine lc_inv [] (fun i acc _ => acc = (rows.take i).map pgA) kc0 (by rw [List.length_map]; omega) (fun _ k => gd1 (k.get nm0 e2)) (fun _ _ _ => rfl) ?_ ?_
  · intro i x acc h1 e a1 a2 a3 a4 a5
    obtain ⟨r, er, rfl⟩ := map_get e
    obtain ⟨ns, en⟩ : ∃ ns, rows[i]? = some ns := ⟨_, List.getElem?_eq_getElem (by have := get_lt er; omega)⟩
    have e5 := a3.get nm0 (d.row i r ns er en)
    (fail "zs")
    refine ⟨⟨by (fail "ke"), ?_⟩⟩
    intro h2 _ _
    rw [take_snoc en, a2]
    simp
  · intro acc h1 a1 a2 a3 a4 a5
    rw [List.length_map, e3, List.take_length] at a1
    subst a1
    (fail "zs")
    exact hQ _ _ (by (fail "ke")) (by omega) (by omega) (by (fail "hg"))
theorem power_non (hn : h[n]? = some (.ins "Power" [])) (hQ : ∀ h', Ke [n] h h' → h'.length = h.length → h'[n]? = some (PwO .non 0) → Q .non h') : Γ pg (k + 2) (.m "Power" "__init__") [.ref n, .non] h Q X := by
  have hl := lt_of_get hn
  refine Γ_meth (fn := f_Power_init) rfl rfl ?_
  unfold f_Power_init
  (fail "zs")
  exact hQ _ (by (fail "ke")) (by omega) (by (fail "hg"))
theorem power_int {m : Int} (hn : h[n]? = some (.ins "Power" [])) (h0 : 0 ≤ m) (hQ : ∀ h', Ke [n] h h' → h'.length = h.length → h'[n]? = some (PwO (.int m) 0) → Q .non h') : Γ pg (k + 2) (.m "Power" "__init__") [.ref n, .int m] h Q X := by
  have hl := lt_of_get hn
  refine Γ_meth (fn := f_Power_init) rfl rfl ?_
  unfold f_Power_init
  (fail "zs")
  exact hQ _ (by (fail "ke")) (by omega) (by (fail "hg"))
theorem power_no {v : A} {dt : PyData} (w : Da h v dt) (nn : dt ≠ .none) (hn : h[n]? = some (.ins "Power" [])) (no : ∀ i, dt = .int i → i < 0) (hX : ∀ h', Ke [] h h' → X true "NoNumber" [("found", v)] h') : Γ pg (k + 2) (.m "Power" "__init__") [.ref n, v] h Q X := by
  cases w with
  | non => exact absurd rfl nn
  | int i =>
    have := no i rfl
    refine Γ_meth (fn := f_Power_init) rfl rfl ?_
    unfold f_Power_init
    (fail "zs")
    exact hX _ (by (fail "ke"))
  | _ =>
    refine Γ_meth (fn := f_Power_init) rfl rfl ?_
    unfold f_Power_init
    (fail "zs")
    exact hX _ (by (fail "ke"))
theorem spend_non {p : Nat} {sp : Int} (hp : h[p]? = some (PwO .non sp)) (hQ : ∀ h', Ke [p] h h' → h'.length = h.length → h'[p]? = some (PwO .non (sp + 1)) → Q .non h') : Γ pg (k + 1) (.m "Power" "spend") [.ref p] h Q X := by
  have hl := lt_of_get hp
  refine Γ_meth (fn := f_Power_spend) rfl rfl ?_
  unfold f_Power_spend
  (fail "zs")
  exact hQ _ (by (fail "ke")) (by omega) (by (fail "hg"))
theorem spend_int {p : Nat} {sp lim : Int} (hp : h[p]? = some (PwO (.int lim) sp)) (ne : lim ≠ sp) (hQ : ∀ h', Ke [p] h h' → h'.length = h.length → h'[p]? = some (PwO (.int lim) (sp + 1)) → Q .non h') : Γ pg (k + 1) (.m "Power" "spend") [.ref p] h Q X := by
  have hl := lt_of_get hp
  refine Γ_meth (fn := f_Power_spend) rfl rfl ?_
  unfold f_Power_spend
  (fail "zs")
  exact hQ _ (by (fail "ke")) (by omega) (by (fail "hg"))
theorem spend_dark {p : Nat} {sp : Int} (hp : h[p]? = some (PwO (.int sp) sp)) (hX : ∀ h', Ke [] h h' → X true "Dark" [("many", .int sp)] h') : Γ pg (k + 1) (.m "Power" "spend") [.ref p] h Q X := by
  refine Γ_meth (fn := f_Power_spend) rfl rfl ?_
  unfold f_Power_spend
  (fail "zs")
  exact hX _ (by (fail "ke"))
theorem written_ok {p : Nat} {sp : Int} {l : A} (hp : h[p]? = some (PwO l sp)) (hQ : Q (.int sp) h) : Γ pg (k + 1) (.m "Power" "written") [.ref p] h Q X := by
  refine Γ_meth (fn := f_Power_written) rfl rfl ?_
  unfold f_Power_written
  (fail "zs")
  exact hQ
theorem left_ok {p : Nat} {sp lim : Int} (hp : h[p]? = some (PwO (.int lim) sp)) (hQ : Q (.int (lim - sp)) h) : Γ pg (k + 1) (.m "Power" "left_over") [.ref p] h Q X := by
  refine Γ_meth (fn := f_Power_left_over) rfl rfl ?_
  unfold f_Power_left_over
  (fail "zs")
  exact hQ
theorem many_ok (d : Dk h f s rs rows) (hQ : Q (.int rows.length) h) : Γ pg (k + 1) (.m "Disk" "how_many") [.ref f] h Q X := by
  have e1 := d.obj
  have e2 := d.sh
  have e3 := d.len
  refine Γ_meth (fn := f_Disk_how_many) rfl rfl ?_
  unfold f_Disk_how_many
  (fail "zs")
  rw [e3]
  exact hQ
end
end My

/-! a page written -/
namespace My
open Z PySem L2
def mixR (ns old : List Int) (j : Nat) : List Int := ns.take j ++ old.drop j
theorem mixR_0 {ns old : List Int} : mixR ns old 0 = old := rfl
theorem mixR_all {ns old : List Int} (a : ns.length = 20) (b : old.length = 20) : mixR ns old 20 = ns := by
  unfold mixR
  rw [List.take_of_length_le (by omega), List.drop_eq_nil_of_le (by omega), List.append_nil]
theorem mixR_len {ns old : List Int} {j : Nat} (a : ns.length = 20) (b : old.length = 20) (hj : j ≤ 20) : (mixR ns old j).length = 20 := by
  simp only [mixR, List.length_append, List.length_take, List.length_drop]
  omega
theorem mixR_succ {ns old : List Int} {j : Nat} {c : Int} (e : ns[j]? = some c) (hj : j < old.length) : (mixR ns old j).set j c = mixR ns old (j + 1) := by
  have hj2 := get_lt e
  unfold mixR
  have hl : (ns.take j).length = j := by rw [List.length_take]; omega
  rw [List.set_append_right _ _ (by omega), hl, Nat.sub_self, List.drop_eq_getElem_cons hj, List.set_cons_zero, List.take_succ, e, List.append_assoc]
  rfl
theorem mixR_pg {ns old : List Int} {j : Nat} (a : PgI ns) (b : PgI old) (hj : j ≤ 20) : PgI (mixR ns old j) :=
  ⟨mixR_len a.1 b.1 hj, fun x m => by
    rcases List.mem_append.mp m with m | m
    · exact a.2 x (List.mem_of_mem_take m)
    · exact b.2 x (List.mem_of_mem_drop m)⟩
theorem Dk.set {S : List Nat} {h h' : Hh} {f s i r : Nat} {rs : List Nat} {rows : List (List Int)} {ns : List Int} (d : Dk h f s rs rows) (k : Ke S h h') (er : rs[i]? = some r) (n : ∀ x ∈ S, x ≠ f ∧ x ≠ s ∧ (x ∉ rs ∨ x = r)) (e : h'[r]? = some (.lst (ns.map A.int))) (p : PgI ns) : Dk h' f s rs (rows.set i ns) := by
  refine ⟨k.get (fun m => (n _ m).1 rfl) d.obj, k.get (fun m => (n _ m).2.1 rfl) d.sh, ?_, by rw [List.length_set]; exact d.len, d.nd, d.low, ?_, by rw [List.length_set]; exact d.few⟩
  · intro j q ms e1 e2
    by_cases hj : i = j
    · subst hj
      rw [er] at e1
      cases e1
      rw [List.getElem?_set_self (by have := get_lt er; have := d.len; omega)] at e2
      cases e2
      exact e
    · rw [List.getElem?_set_ne hj] at e2
      refine k.get (fun m => ?_) (d.row j q ms e1 e2)
      rcases (n _ m).2.2 with z | z
      · exact z (List.mem_of_getElem? e1)
      · subst z
        exact hj ((List.getElem?_inj (get_lt er) d.nd).mp (er.trans e1.symm))
  · intro ms m
    rcases List.mem_or_eq_of_mem_set m with m | rfl
    · exact d.pg ms m
    · exact p
section
variable {k : Nat} {h : Hh} {n : Nat} {Q : QV} {X : XQ} {f s : Nat} {rs : List Nat} {rows : List (List Int)}
theorem spend_ok {p : Nat} {l : A} {sp : Int} (hp : h[p]? = some (PwO l sp)) (hl : l = .non ∨ ∃ lim, l = .int lim ∧ sp ≤ lim)
    (hQ : (∀ lim, l = .int lim → sp + 1 ≤ lim) → ∀ h', Ke [p] h h' → h'.length = h.length → h'[p]? = some (PwO l (sp + 1)) → Q .non h')
    (hX : l = .int sp → ∀ h', Ke [] h h' → X true "Dark" [("many", .int sp)] h') : Γ pg (k + 1) (.m "Power" "spend") [.ref p] h Q X := by
  rcases hl with rfl | ⟨lim, rfl, hl⟩
  · exact spend_non hp (hQ fun _ e => by cases e)
  · by_cases e : lim = sp
    · subst e
      exact spend_dark hp (hX rfl)
    · exact spend_int hp e (hQ fun _ e => by cases e; omega)
theorem L2_atI {α : Type} {l : List α} {i : Nat} {a : α} (e : l[i]? = some a) : L2.atI l (i : Int) = some a := by
  have hl := get_lt e
  obtain ⟨v, e1, _, e2⟩ := atI_any (l := l) (i := (i : Int)) (by omega) (by omega)
  rw [Int.toNat_natCast, e] at e2
  cases e2
  exact e1
theorem wl {p i r : Nat} {l : A} {sp : Int} {ns old : List Int} {x y : Option A} {D : En} {W' : XS} (d : Dk h f s rs rows) (hp : h[p]? = some (PwO l sp)) (np : p ≠ f ∧ p ≠ s ∧ p ∉ rs) (er : rs[i]? = some r) (eo : rows[i]? = some old) (hn : PgI ns) (hl : l = .non ∨ ∃ lim, l = .int lim ∧ sp ≤ lim)
    (hQ : (∀ lim, l = .int lim → sp + 20 ≤ lim) → ∀ x y h', Ke [p, r] h h' → h.length ≤ h'.length → Dk h' f s rs (rows.set i ns) → h'[p]? = some (PwO l (sp + 20)) → D.nx [some (.ref f), some (.int i), some (pgA ns), some (.ref p), x, y] h')
    (hX : ∀ (j : Nat), l = .int (sp + j) → j < 20 → ∀ σ h', Ke [p, r] h h' → h.length ≤ h'.length → Dk h' f s rs (rows.set i (mixR ns old j)) → h'[p]? = some (PwO l (sp + j)) → W' true "Dark" [("many", .int (sp + j))] σ h') :
    forA [] (fun x D' σ' h' => tgW (.tp [(.nm 4), (.nm 5)]) x σ' fun σ2 => wpSs pg (Γ pg (k + 1)) none (.cons (.ex (.meth (.var 3) "spend" .nil)) (.cons (.sub (.idx (.fld (.var 0) "sheets") (.var 1)) (.var 4) (.var 5)) .nil)) D' W' σ2 h') (enA (ns.map A.int)) D [some (.ref f), some (.int i), some (pgA ns), some (.ref p), x, y] h := by
  have e1 := d.obj
  have e2 := d.sh
  have e3 := d.len
  have e4 := d.few
  have e5 := d.row i r old er eo
  have po := d.pg old (List.mem_of_getElem? eo)
  have nr : r ≠ f ∧ r ≠ s := by
    have a := d.low
    have b := a.2 r (List.mem_of_getElem? er)
    omega
  have npr : p ≠ r := fun e => np.2.2 (e ▸ List.mem_of_getElem? er)
  have hpl := lt_of_get hp
  have hrl := lt_of_get e5
  refine for_inv (fun j σ h' => ∃ x y, σ = [some (.ref f), some (.int i), some (pgA ns), some (.ref p), x, y] ∧ Ke [p, r] h h' ∧ h'[p]? = some (PwO l (sp + j)) ∧ h'[r]? = some (.lst ((mixR ns old j).map A.int)) ∧ ∀ lim, l = .int lim → sp + j ≤ lim) ⟨_, _, rfl, Ke.refl, by rw [Int.natCast_zero, Int.add_zero]; exact hp, e5, ?_⟩ (fun _ _ _ _ _ => gd0) ?_ ?_
  · intro lim e
    rcases hl with rfl | ⟨_, rfl, hl⟩
    · cases e
    · cases e; omega
  · rintro j z σ h1 ez ⟨x, y, rfl, k1, g1, g2, lm⟩
    obtain ⟨y', ey, rfl⟩ := enA_get' ez
    obtain ⟨c, ec, rfl⟩ := map_get ey
    have hj := get_lt ec
    rw [hn.1] at hj
    have g3 := k1.get (nm2 np.1.symm nr.1.symm) e1
    have g4 := k1.get (nm2 np.2.1.symm nr.2.symm) e2
    have ml := mixR_len hn.1 po.1 (Nat.le_of_lt hj)
    have hl1 := k1.len
    (fail "zx")
    refine spend_ok g1 ?_ ?_ ?_
    · rcases hl with rfl | ⟨lim, rfl, hl⟩
      · exact .inl rfl
      · exact .inr ⟨lim, rfl, lm _ rfl⟩
    · intro lm2 h2 k2 l2 g5
      have g6 := k2.get (nm1 npr.symm) g2
      have g7 := k2.get (nm1 np.1.symm) g3
      have g8 := k2.get (nm1 np.2.1.symm) g4
      (fail "zx")
      refine ix_lG (a := r) g8 (L2_atI er) ?_
      (fail "zx")
      rename_i h3 k3 l3 g9
      rw [Int.toNat_natCast, mixR_succ ec (by rw [po.1]; exact hj)] at g9
      have kk : Ke [p, r] h h3 := ((k1.tr (k2.mono fun t m => .inl (by rw [List.mem_singleton.mp m]; exact List.mem_cons_self))).tr (k3.mono fun t m => .inl (by rw [List.mem_singleton.mp m]; exact List.mem_cons_of_mem _ List.mem_cons_self)))
      refine Ok.mk ⟨_, _, rfl, kk, ?_, g9, fun lim e => by have := lm2 lim e; omega⟩
      rw [Int.natCast_add, ← Int.add_assoc]
      exact k3.get (nm1 npr) g5
    · intro e h2 k2
      have kk : Ke [p, r] h h2 := k1.tr k2.up
      refine hX j e hj _ h2 kk (by have := k2.len; omega) (d.set kk er ?_ (k2.get nm0 g2) (mixR_pg hn po (by omega))) (k2.get nm0 g1)
      intro x m
      rcases List.mem_cons.mp m with rfl | m
      · exact ⟨np.1, np.2.1, .inl np.2.2⟩
      · rcases List.mem_cons.mp m with rfl | m
        · exact ⟨nr.1, nr.2, .inr rfl⟩
        · cases m
  · rintro σ h1 ⟨x, y, rfl, k1, g1, g2, lm⟩
    rw [enA_length, List.length_map, hn.1] at g1 g2 lm
    rw [mixR_all hn.1 po.1] at g2
    refine hQ (fun lim e => lm lim e) _ _ _ k1 k1.len (d.set k1 er ?_ g2 hn) g1
    intro x m
    rcases List.mem_cons.mp m with rfl | m
    · exact ⟨np.1, np.2.1, .inl np.2.2⟩
    · rcases List.mem_cons.mp m with rfl | m
      · exact ⟨nr.1, nr.2, .inr rfl⟩
      · cases m
end
end My

/-! refusals, as the law looks at them -/
namespace My
open Z PySem L2
section
variable {k : Nat} {h : Hh} {n : Nat} {Q : QV} {X : XQ} {f s : Nat} {rs : List Nat} {rows : List (List Int)}
def clsL : List (String × String × String) := [("NoPage", "found", "page"), ("NoDisk", "found", "disk"), ("NoNumber", "found", "number"), ("Dark", "many", "dark")]
/-- what is asked, and raises -/
def Rz (k : Nat) (h : Hh) (w dd t : A) (C fl : String) (v : A) : Prop := ∀ (Q' : QV) (X' : XQ), (∀ h', Ke [] h h' → X' true C [(fl, v)] h') → Γ pg (k + 6) (.d "_law_asked") [w, dd, t] h Q' X'
theorem refused_ok {w dd t v : A} {d : PyData} {C fl wd : String} (hc : (C, fl, wd) ∈ clsL) (ha : Rz k h w dd t C fl v) (wv : Dn [] h v d) (nc : Nc d 60) (bk : d.bulk ≤ 2 ^ 17)
    (hQ : ∀ h' p, Ke [] h h' → h.length ≤ p → p < h'.length → h'[p]? = some (.lst [.str (st wd), .str d.shown, .bl false, .bl true]) → Q (.ref p) h') : Γ pg (k + 7) (.d "_law_refused") [w, dd, t] h Q X := by
  simp only [clsL, List.mem_cons, List.not_mem_nil, or_false, Prod.mk.injEq] at hc
  rcases hc with ⟨rfl, rfl, rfl⟩ | ⟨rfl, rfl, rfl⟩ | ⟨rfl, rfl, rfl⟩ | ⟨rfl, rfl, rfl⟩
  all_goals
    refine Γ_def (fn := f__law_refused) rfl rfl ?_
    unfold f__law_refused
    (fail "zs")
    refine ha _ _ ?_
    intro h1 k1
    have w1 := wv.ke k1
    have l1 := k1.len
    (fail "zs")
    exact hQ _ _ (by (fail "ke")) (by omega) (by omega) (by (fail "hg"))
theorem due_ok {w dd t v : A} {d : PyData} {C fl wd : String} (hc : (C, fl, wd) ∈ clsL) (ha : Rz k h w dd t C fl v) (wv : Dn [] h v d) (nc : Nc d 60) (bk : d.bulk ≤ 2 ^ 17)
    (hQ : ∀ h', Ke [] h h' → Q (.bl true) h') : Γ pg (k + 8) (.d "_law_due") [w, dd, t, .str (st wd), v] h Q X := by
  refine Γ_def (fn := f__law_due) rfl rfl ?_
  unfold f__law_due
  (fail "zx")
  refine refused_ok (k := k) hc ha wv nc bk ?_
  intro h1 p k1 l1 l2 g1
  have w1 := wv.ke k1
  have e2 : Sg (st wd) := sg_ofString _
  (fail "zx")
  have ly : Ly (.list [.str (st wd), .str d.shown, .bool false, .bool true]) 64 := by (fail "ly")
  rw [eqv_ok ly.lay]
  exact hQ _ (by (fail "ke"))
theorem asked0 {t : Nat} {v x y dd : A} (e : h[t]? = some (.lst [v, x, y])) {C fl : String} {z : A} {f : Nat} (hd : dd = .ref f) (ho : h[f]? = some (.ins "Disk" [("sheets", .ref s)])) (hw : ∀ (Q' : QV) (X' : XQ), (∀ h', Ke [] h h' → X' true C [(fl, z)] h') → Γ pg (k + 5) (.m "Disk" "write") [dd, v, x, y] h Q' X') : Rz k h (.int 0) dd (.ref t) C fl z := by
  subst hd
  intro Q' X' hX
  refine Γ_def (fn := f__law_asked) rfl rfl ?_
  unfold f__law_asked
  (fail "zs")
  exact hw _ _ hX
theorem asked1 {t : Nat} {v : A} (e : h[t]? = some (.lst [v])) {C fl : String} {z : A} {f : Nat} (ho : h[f]? = some (.ins "Disk" [("sheets", .ref s)])) (hw : ∀ (Q' : QV) (X' : XQ), (∀ h', Ke [] h h' → X' true C [(fl, z)] h') → Γ pg (k + 5) (.m "Disk" "page_at") [.ref f, v] h Q' X') : Rz k h (.int 1) (.ref f) (.ref t) C fl z := by
  intro Q' X' hX
  refine Γ_def (fn := f__law_asked) rfl rfl ?_
  unfold f__law_asked
  (fail "zs")
  exact hw _ _ hX
theorem asked2 {t : Nat} {v dd : A} {C fl : String} {z : A} (e : h[t]? = some (.lst [v])) (hw : ∀ (Q' : QV) (X' : XQ) (h1 : Hh) (n : Nat), Ke [] h h1 → h1[n]? = some (.ins "Disk" []) → (∀ h', Ke [] h1 h' → X' true C [(fl, z)] h') → Γ pg (k + 5) (.m "Disk" "__init__") [.ref n, v] h1 Q' X') : Rz k h (.int 2) dd (.ref t) C fl z := by
  intro Q' X' hX
  refine Γ_def (fn := f__law_asked) rfl rfl ?_
  unfold f__law_asked
  (fail "zs")
  rename_i h1 k1 l1 g1
  exact hw _ _ _ _ k1 g1 (fun h' k' => hX h' (k1.tr k'))
theorem asked3 {t : Nat} {v dd : A} {C fl : String} {z : A} (e : h[t]? = some (.lst [v])) (hw : ∀ (Q' : QV) (X' : XQ), (∀ h', Ke [] h h' → X' true C [(fl, z)] h') → Γ pg (k + 5) (.d "disk_of") [v] h Q' X') : Rz k h (.int 3) dd (.ref t) C fl z := by
  intro Q' X' hX
  refine Γ_def (fn := f__law_asked) rfl rfl ?_
  unfold f__law_asked
  (fail "zs")
  exact hw _ _ hX
theorem asked4 {t : Nat} {v dd : A} {C fl : String} {z : A} (e : h[t]? = some (.lst [v])) (hw : ∀ (Q' : QV) (X' : XQ) (h1 : Hh) (n : Nat), Ke [] h h1 → h1[n]? = some (.ins "Power" []) → (∀ h', Ke [] h1 h' → X' true C [(fl, z)] h') → Γ pg (k + 5) (.m "Power" "__init__") [.ref n, v] h1 Q' X') : Rz k h (.int 4) dd (.ref t) C fl z := by
  intro Q' X' hX
  refine Γ_def (fn := f__law_asked) rfl rfl ?_
  unfold f__law_asked
  (fail "zs")
  rename_i h1 k1 l1 g1
  exact hw _ _ _ _ k1 g1 (fun h' k' => hX h' (k1.tr k'))
end
end My

/-! writings refused, disks of told pages -/
namespace My
open Z PySem L2
section
variable {k : Nat} {h : Hh} {n : Nat} {Q : QV} {X : XQ} {f s : Nat} {rs : List Nat} {rows : List (List Int)}
theorem write_no1 {v x y : A} {dt : PyData} (d : Dk h f s rs rows) (w : Da h v dt) (no : wiD dt 0 (rows.length - 1) = false) (hX : ∀ h', Ke [] h h' → X true "NoPage" [("found", v)] h') : Γ pg (k + 4) (.m "Disk" "write") [.ref f, v, x, y] h Q X := by
  have e1 := d.obj
  refine Γ_meth (fn := f_Disk_write) rfl rfl ?_
  unfold f_Disk_write
  (fail "zs")
  refine need_no (k := k) d w no ?_
  intro h' k'
  exact hX _ k'
theorem pageat_no {v : A} {dt : PyData} (d : Dk h f s rs rows) (w : Da h v dt) (no : wiD dt 0 (rows.length - 1) = false) (hX : ∀ h', Ke [] h h' → X true "NoPage" [("found", v)] h') : Γ pg (k + 4) (.m "Disk" "page_at") [.ref f, v] h Q X := by
  have e1 := d.obj
  refine Γ_meth (fn := f_Disk_page_at) rfl rfl ?_
  unfold f_Disk_page_at
  (fail "zs")
  refine need_no (k := k) d w no ?_
  intro h' k'
  exact hX _ k'
theorem write_no2 {i : Nat} {v y : A} {dt : PyData} (d : Dk h f s rs rows) (hi : i < rows.length) (w : Dn [] h v dt) (no : pageD dt = false) (hX : ∀ h', Ke [] h h' → X true "NoPage" [("found", v)] h') : Γ pg (k + 4) (.m "Disk" "write") [.ref f, .int i, v, y] h Q X := by
  have e1 := d.obj
  refine Γ_meth (fn := f_Disk_write) rfl rfl ?_
  unfold f_Disk_write
  (fail "zs")
  refine need_ok (k := k) d hi ?_
  intro h1 k1
  have w1 := w.ke k1
  (fail "zs")
  all_goals first | exact hX _ (by (fail "ke")) | (rename_i hc _; rw [no] at hc; cases hc) | (rename_i hc; rw [no] at hc; cases hc)
theorem write_dark {i p : Nat} {ns : List Int} (d : Dk h f s rs rows) (hi : i < rows.length) (hn : PgI ns) (hp : h[p]? = some (PwO (.int 0) 0)) (hX : ∀ h', Ke [] h h' → X true "Dark" [("many", .int 0)] h') : Γ pg (k + 4) (.m "Disk" "write") [.ref f, .int i, pgA ns, .ref p] h Q X := by
  have e1 := d.obj
  obtain ⟨c, r, rfl⟩ : ∃ c r, ns = c :: r := by
    cases ns with
    | nil => exact absurd hn.1 (by decide)
    | cons c r => exact ⟨c, r, rfl⟩
  refine Γ_meth (fn := f_Disk_write) rfl rfl ?_
  unfold f_Disk_write
  (fail "zs")
  refine need_ok (k := k) d hi ?_
  intro h1 k1
  have n1 := hn.1
  have n2 := hn.2
  (fail "zs")
  rename_i h2 k2 l2
  have g := (k1.tr k2).get nm0 hp
  (fail "zs")
  show forA _ _ (.tup [.int 0, .int c] :: _) _ _ _
  refine fa_cons (by (fail "gd")) ?_
  (fail "zs")
  refine spend_dark g ?_
  intro h3 k3
  exact hX _ ((k1.tr k2).tr k3)
/-- told pages that make a disk -/
def diskL (ds : List PyData) : Bool := decide (4 ≤ ds.length ∧ ds.length ≤ 512) && ds.all pageD
def diskD : PyData → Bool
  | .tuple ds => diskL ds
  | .list ds => diskL ds
  | _ => false
theorem diskof_no {v : A} {d : PyData} (w : Dn [] h v d) (no : diskD d = false) (hX : ∀ h', Ke [] h h' → X true "NoDisk" [("found", v)] h') : Γ pg (k + 4) (.d "disk_of") [v] h Q X := by
  refine Γ_def (fn := f_disk_of) rfl rfl ?_
  unfold f_disk_of
  cases w
  case fro xs ds t =>
    have hl := t.len
    (fail "zs")
    all_goals (try exact hX _ Ke.refl)
    refine lc_inv [] (fun i acc _ => acc = ((ds.take i).map pageD).map A.bl) kc0 (by omega) (fun _ k => gd0) (fun _ _ _ => rfl) ?_ ?_
    · intro i x acc h1 e a1 a2 a3 a4 a5
      obtain ⟨d, ed, wd⟩ := t.get e
      have wd := wd.ke a3
      (fail "zx")
      refine ⟨⟨by (fail "ke"), ?_⟩⟩
      intro h2 _ _
      rw [take_snoc ed, a2]
      simp
    · intro acc h1 a1 a2 a3 a4 a5
      rw [hl, List.take_length] at a1
      subst a1
      have e : ds.all pageD = false := by
        have : decide (4 ≤ ds.length ∧ ds.length ≤ 512) = true := decide_eq_true (by omega)
        simpa only [diskD, diskL, this, Bool.true_and] using no
      (fail "zs")
      all_goals first | exact hX _ (by (fail "ke"))
  case tup xs ds t =>
    have hl := t.len
    (fail "zs")
    all_goals (try exact hX _ Ke.refl)
    refine lc_inv [] (fun i acc _ => acc = ((ds.take i).map pageD).map A.bl) kc0 (by omega) (fun _ k => gd0) (fun _ _ _ => rfl) ?_ ?_
    · intro i x acc h1 e a1 a2 a3 a4 a5
      obtain ⟨d, ed, wd⟩ := t.get e
      have wd := wd.ke a3
      (fail "zx")
      refine ⟨⟨by (fail "ke"), ?_⟩⟩
      intro h2 _ _
      rw [take_snoc ed, a2]
      simp
    · intro acc h1 a1 a2 a3 a4 a5
      rw [hl, List.take_length] at a1
      subst a1
      have e : ds.all pageD = false := by
        have : decide (4 ≤ ds.length ∧ ds.length ≤ 512) = true := decide_eq_true (by omega)
        simpa only [diskD, diskL, this, Bool.true_and] using no
      (fail "zs")
      all_goals first | exact hX _ (by (fail "ke"))
  case lst n xs ds nb e t =>
    have hl := t.len
    (fail "zs")
    all_goals (try exact hX _ Ke.refl)
    refine lc_inv [] (fun i acc _ => acc = ((ds.take i).map pageD).map A.bl) kc0 (by omega) (fun _ k => gd1 (k.get nm0 (by assumption))) (fun _ _ _ => rfl) ?_ ?_
    · intro i x acc h1 e a1 a2 a3 a4 a5
      obtain ⟨d, ed, wd⟩ := t.get e
      have wd := wd.ke a3
      (fail "zx")
      refine ⟨⟨by (fail "ke"), ?_⟩⟩
      intro h2 _ _
      rw [take_snoc ed, a2]
      simp
    · intro acc h1 a1 a2 a3 a4 a5
      rw [hl, List.take_length] at a1
      subst a1
      have e : ds.all pageD = false := by
        have : decide (4 ≤ ds.length ∧ ds.length ≤ 512) = true := decide_eq_true (by omega)
        simpa only [diskD, diskL, this, Bool.true_and] using no
      (fail "zs")
      all_goals first | exact hX _ (by (fail "ke"))
  all_goals
    (fail "zs")
    exact hX _ Ke.refl
end
end My

/-! a page written by all the power there is; a disk of told pages -/
namespace My
open Z PySem L2
section
variable {k : Nat} {h : Hh} {n : Nat} {Q : QV} {X : XQ} {f s : Nat} {rs : List Nat} {rows : List (List Int)}
theorem write_pw {p i r : Nat} {l : A} {sp : Int} {ns old : List Int} (d : Dk h f s rs rows) (hp : h[p]? = some (PwO l sp)) (np : p ≠ f ∧ p ≠ s ∧ p ∉ rs) (er : rs[i]? = some r) (eo : rows[i]? = some old) (hn : PgI ns) (hl : l = .non ∨ ∃ lim, l = .int lim ∧ sp ≤ lim)
    (hQ : (∀ lim, l = .int lim → sp + 20 ≤ lim) → ∀ h', Ke [p, r] h h' → h.length ≤ h'.length → Dk h' f s rs (rows.set i ns) → h'[p]? = some (PwO l (sp + 20)) → Q .non h')
    (hX : ∀ (j : Nat), l = .int (sp + j) → j < 20 → ∀ h', Ke [p, r] h h' → h.length ≤ h'.length → Dk h' f s rs (rows.set i (mixR ns old j)) → h'[p]? = some (PwO l (sp + j)) → X true "Dark" [("many", .int (sp + j))] h') :
    Γ pg (k + 4) (.m "Disk" "write") [.ref f, .int i, pgA ns, .ref p] h Q X := by
  have e1 := d.obj
  have n1 := hn.1
  have n2 := hn.2
  have hi := get_lt eo
  refine Γ_meth (fn := f_Disk_write) rfl rfl ?_
  unfold f_Disk_write
  (fail "zs")
  refine need_ok (k := k) d hi ?_
  intro h1 k1
  (fail "zs")
  rename_i h2 k2 l2
  have k3 : Ke [] h h2 := k1.tr k2
  have l3 := k3.len
  refine wl (k := k + 2) (d.ke0 k3) (k3.get nm0 hp) np er eo hn hl ?_ ?_
  · intro lm x y h4 k4 l4 d4 g4
    (fail "zs")
    exact hQ lm _ (k3.up.tr k4) (by omega) d4 g4
  · intro j e hj σ h4 k4 l4 d4 g4
    exact hX j e hj _ (k3.up.tr k4) (by omega) d4 g4
theorem write_non {i r : Nat} {ns old : List Int} (d : Dk h f s rs rows) (er : rs[i]? = some r) (eo : rows[i]? = some old) (hn : PgI ns) (rl : ∀ r ∈ rs, r < h.length)
    (hQ : ∀ h', Ke [r] h h' → h.length ≤ h'.length → Dk h' f s rs (rows.set i ns) → Q .non h') :
    Γ pg (k + 4) (.m "Disk" "write") [.ref f, .int i, pgA ns, .non] h Q X := by
  have e1 := d.obj
  have n1 := hn.1
  have n2 := hn.2
  have hi := get_lt eo
  have lf := lt_of_get d.obj
  have ls := lt_of_get d.sh
  refine Γ_meth (fn := f_Disk_write) rfl rfl ?_
  unfold f_Disk_write
  (fail "zs")
  refine need_ok (k := k) d hi ?_
  intro h1 k1
  (fail "zs")
  rename_i h2 k2 l2 h3 k3 l3 g3
  refine power_non (k := k + 1) g3 ?_
  intro h4 k4 l4 g4
  (fail "zs")
  have q1 := k1.len
  have kk : Ke [] h h4 := by (fail "ke")
  have hk := kk.len
  refine wl (k := k + 2) (d.ke0 kk) g4 ⟨by have := k1.len; omega, by have := k1.len; omega, fun m => by have := rl _ m; have := k1.len; omega⟩ er eo hn (.inl rfl) ?_ ?_
  · intro lm x y h5 k5 l5 d5 g5
    (fail "zs")
    refine hQ _ ?_ (by omega) d5
    refine k5.step (fun t m => ?_) kk.up
    rcases List.mem_cons.mp m with rfl | m
    · exact .inr (by have := k1.len; omega)
    · exact .inl m
  · intro j e
    cases e
end
end My

/-! a disk of told pages -/
namespace My
open Z PySem L2
section
variable {k : Nat} {h : Hh} {n : Nat} {Q : QV} {X : XQ} {f s : Nat} {rs : List Nat} {rows : List (List Int)}
theorem diskof_ok {pgs : List (List Int)} {v : A} (sq : Sq h v (pgs.map pgA)) (m1 : 4 ≤ pgs.length) (m2 : pgs.length ≤ 512) (hp : ∀ ns ∈ pgs, PgI ns)
    (hQ : ∀ h' f s rs, Ke [] h h' → h.length ≤ f → f < h'.length → (∀ r ∈ rs, r < h'.length) → Dk h' f s rs pgs → Q (.ref f) h') : Γ pg (k + 5) (.d "disk_of") [v] h Q X := by
  have hd : (pgs.all fun _ => true) = true := by simp
  cases sq with
  | lst ev =>
    have hv := lt_of_get ev
    refine Γ_def (fn := f_disk_of) rfl rfl ?_
    unfold f_disk_of
    (fail "zx")
    refine lc_mapB (g := pgA) (fun _ => true) (by omega) (fun _ k => gd1 (k.get nm0 ev)) ?_ ?_
    · intro ns h1 R m k1 l1 hR
      have n1 := (hp ns m).1
      have n2 := (hp ns m).2
      (fail "zx")
      exact hR _ (by (fail "ke"))
    · intro h1 k1 l1 g1
      (fail "zx")
      rename_i h2 k2 l2 g2
      refine disk_ok (k := k + 1) g2 m1 m2 ?_
      intro h3 s rs k3 s3 l3 r3 s4 d3
      (fail "zx")
      have q3 : Ke [] h h3 := by (fail "ke")
      refine for_inv (fun i σ h' => ∃ x y, σ = [some (.ref _), some (.ref h1.length), x, y] ∧ Ke [] h h' ∧ h3.length ≤ h'.length ∧ Dk h' h1.length s rs (pgs.take i ++ List.replicate (pgs.length - i) z20)) ⟨_, _, rfl, q3, Nat.le_refl _, d3⟩ (fun i σ h' _ ⟨_, _, _, k4, _⟩ => gd1 (k4.get nm0 ev)) ?_ ?_
      · rintro i z σ h4 ez ⟨x, y, rfl, k4, l4, d4⟩
        obtain ⟨y', ey, rfl⟩ := enA_get' ez
        obtain ⟨ns, en, rfl⟩ := map_get ey
        have hi := get_lt en
        have dl := d4.len
        have hl : (pgs.take i ++ List.replicate (pgs.length - i) z20).length = pgs.length := by
          simp only [List.length_append, List.length_take, List.length_replicate]
          omega
        obtain ⟨r, er⟩ : ∃ r, rs[i]? = some r := ⟨_, List.getElem?_eq_getElem (by omega)⟩
        obtain ⟨old, eo⟩ : ∃ o, (pgs.take i ++ List.replicate (pgs.length - i) z20)[i]? = some o := ⟨_, List.getElem?_eq_getElem (by omega)⟩
        have e1 := d4.obj
        (fail "zx")
        refine write_non (k := k) d4 er eo (hp ns (List.mem_of_getElem? en)) (fun r m => by have := r3 r m; omega) ?_
        intro h5 k5 l5 d5
        (fail "zx")
        have hr : h.length ≤ r := by
          have := d4.low.1
          have := d4.low.2 r (List.mem_of_getElem? er)
          omega
        refine Ok.mk ⟨_, _, rfl, k5.step (kc1 (.inr hr)) k4, by omega, ?_⟩
        have e : (pgs.take i ++ List.replicate (pgs.length - i) z20).set i ns = pgs.take (i + 1) ++ List.replicate (pgs.length - (i + 1)) z20 := by
          rw [List.set_append_right _ _ (by rw [List.length_take]; omega), List.length_take, show i - min i pgs.length = 0 by omega, show pgs.length - i = (pgs.length - (i + 1)) + 1 by omega, List.replicate_succ, List.set_cons_zero, take_snoc en, List.append_assoc]
          rfl
        rw [← e]
        exact d5
      · rintro σ h4 ⟨x, y, rfl, k4, l4, d4⟩
        rw [enA_length, List.length_map, List.take_length, Nat.sub_self, List.replicate_zero, List.append_nil] at d4
        (fail "zx")
        exact hQ _ _ _ _ k4 (by omega) (by omega) (fun r m => by have := r3 r m; omega) d4
  | tup =>
    refine Γ_def (fn := f_disk_of) rfl rfl ?_
    unfold f_disk_of
    (fail "zx")
    refine lc_mapB (g := pgA) (fun _ => true) (by omega) (fun _ k => gd0) ?_ ?_
    · intro ns h1 R m k1 l1 hR
      have n1 := (hp ns m).1
      have n2 := (hp ns m).2
      (fail "zx")
      exact hR _ (by (fail "ke"))
    · intro h1 k1 l1 g1
      (fail "zx")
      rename_i h2 k2 l2 g2
      refine disk_ok (k := k + 1) g2 m1 m2 ?_
      intro h3 s rs k3 s3 l3 r3 s4 d3
      (fail "zx")
      have q3 : Ke [] h h3 := by (fail "ke")
      refine for_inv (fun i σ h' => ∃ x y, σ = [some (.tup (pgs.map pgA)), some (.ref h1.length), x, y] ∧ Ke [] h h' ∧ h3.length ≤ h'.length ∧ Dk h' h1.length s rs (pgs.take i ++ List.replicate (pgs.length - i) z20)) ⟨_, _, rfl, q3, Nat.le_refl _, d3⟩ (fun _ _ _ _ _ => gd0) ?_ ?_
      · rintro i z σ h4 ez ⟨x, y, rfl, k4, l4, d4⟩
        obtain ⟨y', ey, rfl⟩ := enA_get' ez
        obtain ⟨ns, en, rfl⟩ := map_get ey
        have hi := get_lt en
        have dl := d4.len
        have hl : (pgs.take i ++ List.replicate (pgs.length - i) z20).length = pgs.length := by
          simp only [List.length_append, List.length_take, List.length_replicate]
          omega
        obtain ⟨r, er⟩ : ∃ r, rs[i]? = some r := ⟨_, List.getElem?_eq_getElem (by omega)⟩
        obtain ⟨old, eo⟩ : ∃ o, (pgs.take i ++ List.replicate (pgs.length - i) z20)[i]? = some o := ⟨_, List.getElem?_eq_getElem (by omega)⟩
        have e1 := d4.obj
        (fail "zx")
        refine write_non (k := k) d4 er eo (hp ns (List.mem_of_getElem? en)) (fun r m => by have := r3 r m; omega) ?_
        intro h5 k5 l5 d5
        (fail "zx")
        have hr : h.length ≤ r := by
          have := d4.low.1
          have := d4.low.2 r (List.mem_of_getElem? er)
          omega
        refine Ok.mk ⟨_, _, rfl, k5.step (kc1 (.inr hr)) k4, by omega, ?_⟩
        have e : (pgs.take i ++ List.replicate (pgs.length - i) z20).set i ns = pgs.take (i + 1) ++ List.replicate (pgs.length - (i + 1)) z20 := by
          rw [List.set_append_right _ _ (by rw [List.length_take]; omega), List.length_take, show i - min i pgs.length = 0 by omega, show pgs.length - i = (pgs.length - (i + 1)) + 1 by omega, List.replicate_succ, List.set_cons_zero, take_snoc en, List.append_assoc]
          rfl
        rw [← e]
        exact d5
      · rintro σ h4 ⟨x, y, rfl, k4, l4, d4⟩
        rw [enA_length, List.length_map, List.take_length, Nat.sub_self, List.replicate_zero, List.append_nil] at d4
        (fail "zx")
        exact hQ _ _ _ _ k4 (by omega) (by omega) (fun r m => by have := r3 r m; omega) d4
end
end My

/-! words and no pages drawn -/
namespace My
open Z PySem L2
section
variable {k : Nat} {h : Hh} {n : Nat} {Q : QV} {X : XQ} {f s : Nat} {rs : List Nat} {rows : List (List Int)}
theorem w_pow {r : Int} (h1 : r < 32) : W (1 * 2 ^ r.toNat) := by
  have h2 : r.toNat ≤ 31 := by omega
  have h3 : (2 : Nat) ^ r.toNat ≤ 2 ^ 31 := Nat.pow_le_pow_right (by decide) h2
  have h4 : (2 : Int) ^ r.toNat = ((2 ^ r.toNat : Nat) : Int) := (Int.natCast_pow 2 r.toNat).symm
  rw [Int.one_mul, h4]
  generalize (2 : Nat) ^ r.toNat = m at h3
  constructor
  · omega
  · have : (2 : Nat) ^ 31 = 2147483648 := by decide
    omega
theorem word_ok (hb : Bx h n) (hQ : ∀ r h', W r → Ke [n] h h' → h.length ≤ h'.length → Bx h' n → Q (.int r) h') : Γ pg (k + 2) (.d "_law_word") [.ref n] h Q X := by
  have hl := hb.lt
  refine Γ_def (fn := f__law_word) rfl rfl ?_
  unfold f__law_word
  (fail "zs")
  refine mn_l (P := fun v => ∃ r, v = .int r ∧ W r) (by (fail "hg")) (by omega) (by simp only [List.length_cons, List.length_nil]; omega) (by (fail "fm") <;> exact ⟨_, rfl, by first | exact w_pow (by omega) | (constructor <;> omega)⟩) ?_
  rintro v ⟨r, rfl, hr⟩
  exact hQ _ _ hr (by (fail "ke")) (by omega) (by (fail "bx"))
set_option hygiene false in
local macro_rules | `(tactic| fail "zc") => `(tactic| (with_reducible apply word_ok); (· (fail "bx")))
structure Bad (n : Nat) (h : Hh) (v : A) (d : PyData) : Prop where
  dn : Dn [n] h v d
  np : pageD d = false
  nc : Nc d 55
  bk : d.bulk ≤ 2000
theorem mem_c {P : A → Prop} {x : A} {xs : List A} (a : P x) (b : ∀ x ∈ xs, P x) : ∀ y ∈ x :: xs, P y := fun y m => (List.mem_cons.mp m).elim (fun e => e ▸ a) (b y)
/-- a closed thing -/
theorem nc_c {d : PyData} (e : (d.showable && decide (d.depth ≤ 55) && d.leavesShort 60 && d.shown.cps.toList.all (fun c => decide (c < 0x110000))) = true) : Nc d 55 := by
  simp only [Bool.and_eq_true, decide_eq_true_eq, List.all_eq_true] at e
  exact ⟨e.1.1.1, e.1.1.2, e.1.2, e.2⟩
theorem nopage_ok (hb : Bx h n) (hQ : ∀ v d h', Bad n h' v d → Ke [n] h h' → h.length ≤ h'.length → Bx h' n → Q v h') : Γ pg (k + 2) (.d "_law_no_page") [.ref n] h Q X := by
  have hl := hb.lt
  refine Γ_def (fn := f__law_no_page) rfl rfl ?_
  unfold f__law_no_page
  (fail "zs")
  rename_i h1 k1 l1 g1 h2 k2 l2 g2 h3 k3 l3 g3 h4 k4 l4 g4 h5 k5 l5 g5 h6 k6 l6 g6 r h7 r0 r1 k7 l7 b7
  refine mn_l (P := fun v => ∃ d, Bad n h7 v d) (by (fail "hg")) r0 (by show r < 14; omega) ?_ ?_
  · rw [List.forall_mem_append]
    constructor
    · repeat' refine mem_c ?_ ?_
      · exact ⟨_, .non, rfl, nc_c (by decide +kernel), by decide⟩
      · exact ⟨_, .int 7, rfl, nc_c (by decide +kernel), by decide⟩
      · exact ⟨_, .str _, rfl, nc_c (by decide +kernel), by decide⟩
      · exact ⟨_, .tup .nil, rfl, nc_c (by decide +kernel), by decide⟩
      · exact ⟨.list ((List.replicate 20 (0 : Int)).map PyData.int), .lst (by (fail "ne")) (by (fail "hg")) (DnL.ints (List.replicate 20 0)), rfl, nc_c (by decide +kernel), by decide +kernel⟩
      · exact ⟨.tuple ((List.replicate 19 (0 : Int)).map PyData.int), .tup (DnL.ints (List.replicate 19 0)), rfl, nc_c (by decide +kernel), by decide +kernel⟩
      · exact ⟨.tuple ((List.replicate 21 (0 : Int)).map PyData.int), .tup (DnL.ints (List.replicate 21 0)), rfl, nc_c (by decide +kernel), by decide +kernel⟩
      · exact ⟨.tuple ((List.replicate 19 (0 : Int) ++ [-1]).map PyData.int), .tup (DnL.ints (List.replicate 19 0 ++ [-1])), rfl, nc_c (by decide +kernel), by decide +kernel⟩
      · exact ⟨.tuple ((4294967296 :: List.replicate 19 (0 : Int)).map PyData.int), .tup (DnL.ints (4294967296 :: List.replicate 19 0)), rfl, nc_c (by decide +kernel), by decide +kernel⟩
      · exact ⟨_, .dct (by (fail "ne")) (by (fail "hg")) .nil, rfl, nc_c (by decide +kernel), by decide +kernel⟩
      · exact ⟨_, .bl true, rfl, nc_c (by decide +kernel), by decide⟩
      · exact fun _ m => by cases m
    · repeat' refine mem_c ?_ ?_
      · exact ⟨.tuple (List.replicate 19 (.int 0) ++ [.bool true]), .tup (by repeat (first | exact DnL.nil | refine DnL.cons (.int _) ?_ | refine DnL.cons (.bl _) ?_ | refine DnL.cons .non ?_ | refine DnL.cons (.str _) ?_)), rfl, nc_c (by decide +kernel), by decide +kernel⟩
      · exact ⟨.tuple (List.replicate 20 (.str (st "0"))), .tup (by repeat (first | exact DnL.nil | refine DnL.cons (.int _) ?_ | refine DnL.cons (.bl _) ?_ | refine DnL.cons .non ?_ | refine DnL.cons (.str _) ?_)), rfl, nc_c (by decide +kernel), by decide +kernel⟩
      · exact ⟨.tuple (List.replicate 10 (.int 0) ++ [.none] ++ List.replicate 9 (.int 0)), .tup (by repeat (first | exact DnL.nil | refine DnL.cons (.int _) ?_ | refine DnL.cons (.bl _) ?_ | refine DnL.cons .non ?_ | refine DnL.cons (.str _) ?_)), rfl, nc_c (by decide +kernel), by decide +kernel⟩
      · exact fun _ m => by cases m
  · rintro v ⟨d, w⟩
    exact hQ _ _ _ w (by (fail "ke")) (by omega) b7
set_option hygiene false in
local macro_rules | `(tactic| fail "zc") => `(tactic| (with_reducible apply nopage_ok); (· (fail "bx")))
end
set_option hygiene false in
local macro_rules | `(tactic| fail "zc") => `(tactic| (with_reducible apply word_ok); (· (fail "bx")))
set_option hygiene false in
local macro_rules | `(tactic| fail "zc") => `(tactic| (with_reducible apply nopage_ok); (· (fail "bx")))
end My
set_option hygiene false in
local macro_rules | `(tactic| fail "zc") => `(tactic| (with_reducible apply word_ok); (· (fail "bx")))
set_option hygiene false in
local macro_rules | `(tactic| fail "zc") => `(tactic| (with_reducible apply nopage_ok); (· (fail "bx")))

/-! the law's turns -/
namespace My
open Z PySem L2
structure NumB (m : Int) (n : Nat) (h : Hh) (v : A) (d : PyData) : Prop where
  dn : Dn [n] h v d
  no : wiD d 0 (m - 1) = false
  nc : Nc d 60
  bk : d.bulk ≤ 2 ^ 17
structure Kw (n : Nat) (h h' : Hh) : Prop where
  w : Ke [n] h h'
theorem NumB.ke {m : Int} {n : Nat} {h h' : Hh} {v : A} {d : PyData} (w : NumB m n h v d) (k : Ke [n] h h') : NumB m n h' v d := ⟨w.dn.ke k, w.no, w.nc, w.bk⟩
theorem Bad.ke {n : Nat} {h h' : Hh} {v : A} {d : PyData} (w : Bad n h v d) (k : Ke [n] h h') : Bad n h' v d := ⟨w.dn.ke k, w.np, w.nc, w.bk⟩
theorem dn0 {n : Nat} {h : Hh} {v : A} {d : PyData} (w : Dn [n] h v d) : Dn [] h v d := Dn.sub (fun _ m => by cases m) w
theorem Dk.ke1 {n : Nat} {h h' : Hh} {f s : Nat} {rs : List Nat} {rows : List (List Int)} (d : Dk h f s rs rows) (k : Ke [n] h h') (nf : n < f) : Dk h' f s rs rows := d.ke k (fun z mz => by rw [List.mem_singleton.mp mz]; exact nf)
theorem pg_nc {ns : List Int} (p : PgI ns) : Nc (pgD ns) 40 := (nc_tup (e := 3) (ncl_ints fun x m => by
  have := p.2 x m
  have h1 := this.1
  have h2 := this.2
  have : (4294967296 : Nat) ≤ 10 ^ 50 := by decide
  omega)).mono (by decide)
theorem pgs_nc {rows : List (List Int)} (p : ∀ ns ∈ rows, PgI ns) : NcL (rows.map pgD) 55 := .of fun d m => by
  obtain ⟨ns, mm, rfl⟩ := List.mem_map.mp m
  exact (pg_nc (p ns mm)).mono (by decide)
theorem pgs_bk : ∀ {rows : List (List Int)}, (∀ ns ∈ rows, PgI ns) → PyData.bulkAll (rows.map pgD) = 21 * rows.length
  | [], _ => rfl
  | ns :: r, p => by
    have e := pgs_bk (rows := r) fun x m => p x (List.mem_cons_of_mem _ m)
    have e2 := (p ns List.mem_cons_self).1
    simp only [List.map_cons, PyData.bulkAll, PyData.bulk, bulk_ints, e, e2, List.length_cons]
    omega
theorem pgs_dn {S : List Nat} {h : Hh} : ∀ rows : List (List Int), DnL S h (rows.map pgA) (rows.map pgD)
  | [] => .nil
  | ns :: r => .cons (.tup (DnL.ints ns)) (pgs_dn r)
theorem dnl_app {S : List Nat} {h : Hh} : ∀ {xs ys : List A} {ds es : List PyData}, DnL S h xs ds → DnL S h ys es → DnL S h (xs ++ ys) (ds ++ es)
  | _, _, _, _, .nil, b => b
  | _, _, _, _, .cons w r, b => .cons w (dnl_app r b)
theorem diskL_no {ds : List PyData} {d : PyData} (m : d ∈ ds) (e : pageD d = false) : diskL ds = false := by
  have : ds.all pageD = false := by
    rw [Bool.eq_false_iff]
    intro z
    rw [List.all_eq_true] at z
    exact Bool.false_ne_true (e.symm.trans (z d m))
  simp [diskL, this]
section
variable {k : Nat} {h : Hh} {n : Nat} {Q : QV} {X : XQ} {f s : Nat} {rs : List Nat} {rows : List (List Int)}
theorem turnA {p g : Nat} {m : Int} {ns : List Int} {v : A} {dv : PyData} {x3 x8 x9 x10 x11 x12 : Option A} {D : En} {W' : XS} (hb : Bx h n) (nf : n < f) (d : Dk h f s rs rows) (em : m = rows.length) (nb : NumB m n h v dv)
    (hD : ∀ x8 h', Ke [n] h h' → Bx h' n → D.nx [some (.ref n), some (.int m), some (.ref f), x3, some (.ref p), some (pgA ns), some (.ref g), some v, x8, x9, x10, x11, x12] h') :
    wpSs pg (Γ pg (k + 9)) none (.cons (.for (.nm 8) (.ex (.lst (.cons (.var 5) (.cons (.call "_law_no_page" (.cons (.var 0) .nil)) .nil)))) (.cons (.ite (.not (.call "_law_due" (.cons (.cst (.int 0)) (.cons (.var 2) (.cons (.lst (.cons (.var 7) (.cons (.var 8) (.cons (.idx (.lst (.cons (.cst .non) (.cons (.var 6) .nil))) (.call "_law_take" (.cons (.var 0) (.cons (.cst (.int 2)) .nil)))) .nil)))) (.cons (.cst (.str (st "page"))) (.cons (.var 7) .nil))))))) (.cons (.ret (.cst (.bl false))) .nil) .nil) .nil)) (.cons (.ite (.not (.call "_law_due" (.cons (.cst (.int 1)) (.cons (.var 2) (.cons (.lst (.cons (.var 7) .nil)) (.cons (.cst (.str (st "page"))) (.cons (.var 7) .nil))))))) (.cons (.ret (.cst (.bl false))) .nil) .nil) .nil)) D W' [some (.ref n), some (.int m), some (.ref f), x3, some (.ref p), some (pgA ns), some (.ref g), some v, x8, x9, x10, x11, x12] h := by
  have hl := hb.lt
  subst em
  (fail "zx")
  rename_i w dw h1 bw k1 l1 b1 h2 k2 l2 g2
  have b2 : Bx h2 n := by (fail "bx")
  have kk : Kw n h h2 := ⟨by (fail "ke")⟩
  clear k1 k2 b1
  refine for_k1 [8] rfl [n] (fun _ h' => Bx h' n) ?_ (by intro _ _; (fail "gd")) ?_ ?_ <;> try simp only [fj, List.zip_cons_cons, List.zip_nil_left, List.zip_nil_right, List.foldl_cons, List.foldl_nil, List.set_cons_succ, List.set_cons_zero]
  · exact b2
  · intro i x h3 ei k3 b3 y8
    have q3 := b3.lt
    have d3 := d.ke1 (kk.w.tr k3) nf
    have nb3 := nb.ke (kk.w.tr k3)
    (fail "zx")
    rename_i h4 k4 l4 g4 r h5 r0 r1 k5 l5 b5
    refine mn_l (P := fun _ => True) (by (fail "hg")) r0 (by show r < 2; omega) (fun _ _ => trivial) ?_
    intro u _
    (fail "zx")
    rename_i h6 k6 l6 g6
    have b6 : Bx h6 n := by (fail "bx")
    have q6 : Ke [n] h3 h6 := by (fail "ke")
    have d6 := d3.ke1 q6 nf
    have nb6 := nb3.ke q6
    refine due_ok (k := k + 1) (C := "NoPage") (fl := "found") (wd := "page") (by simp [clsL]) (asked0 g6 rfl d6.obj fun Q' X' hX => write_no1 (k := k + 2) d6 nb6.dn.da nb6.no hX) (dn0 nb6.dn) nb6.nc nb6.bk ?_
    intro h7 k7
    (fail "zx")
    exact Ok.mk ⟨_, rfl, k3.tr (q6.tr k7.up), (by (fail "bx"))⟩
  · intro h3 k3 b3 y8
    have q3 := b3.lt
    have d3 := d.ke1 (kk.w.tr k3) nf
    have nb3 := nb.ke (kk.w.tr k3)
    (fail "zx")
    rename_i h6 k6 l6 g6
    have b6 : Bx h6 n := by (fail "bx")
    have q6 : Ke [n] h3 h6 := by (fail "ke")
    have d6 := d3.ke1 q6 nf
    have nb6 := nb3.ke q6
    refine due_ok (k := k + 1) (C := "NoPage") (fl := "found") (wd := "page") (by simp [clsL]) (asked1 g6 d6.obj fun Q' X' hX => pageat_no (k := k + 2) d6 nb6.dn.da nb6.no hX) (dn0 nb6.dn) nb6.nc nb6.bk ?_
    intro h7 k7
    (fail "zx")
    exact hD _ _ (kk.w.tr (k3.tr (q6.tr k7.up))) (by (fail "bx"))
theorem turnB {p g : Nat} {m : Int} {ns : List Int} {x3 x7 x8 x9 x10 x11 x12 : Option A} {D : En} {W' : XS} (hb : Bx h n) (nf : n < f) (d : Dk h f s rs rows) (em : m = rows.length) (m40 : m ≤ 40) (hp : h[p]? = some (.lst (rows.map pgA))) (np : n ≠ p)
    (hD : ∀ x9 x10 x11 h', Ke [n] h h' → Bx h' n → D.nx [some (.ref n), some (.int m), some (.ref f), x3, some (.ref p), some (pgA ns), some (.ref g), x7, x8, x9, x10, x11, x12] h') :
    wpSs pg (Γ pg (k + 9)) none (.cons (.set 9 (.call "_law_no_page" (.cons (.var 0) .nil))) (.cons (.ite (.not (.call "_law_due" (.cons (.cst (.int 0)) (.cons (.var 2) (.cons (.lst (.cons (.call "_law_take" (.cons (.var 0) (.cons (.var 1) .nil))) (.cons (.var 9) (.cons (.idx (.lst (.cons (.cst .non) (.cons (.var 6) .nil))) (.call "_law_take" (.cons (.var 0) (.cons (.cst (.int 2)) .nil)))) .nil)))) (.cons (.cst (.str (st "page"))) (.cons (.var 9) .nil))))))) (.cons (.ret (.cst (.bl false))) .nil) .nil) (.cons (.set 10 (.call "_law_take" (.cons (.var 0) (.cons (.var 1) .nil)))) (.cons (.set 11 (.idx (.lst (.cons (.bin .Add (.bin .Add (.slc (.var 4) .no (.var 10)) (.lst (.cons (.var 9) .nil))) (.slc (.var 4) (.var 10) .no)) (.cons (.blt .tuple (.cons (.bin .Add (.slc (.var 4) .no (.var 10)) (.lst (.cons (.var 9) (.cons (.cst .non) .nil)))) .nil)) .nil))) (.call "_law_take" (.cons (.var 0) (.cons (.cst (.int 2)) .nil))))) (.cons (.ite (.cmp .Lt (.blt .len (.cons (.var 11) .nil)) (.cst (.int 4))) (.cons (.set 11 (.bin .Add (.bin .Add (.bin .Add (.var 11) (.var 11)) (.var 11)) (.var 11))) .nil) .nil) (.cons (.ite (.not (.call "_law_due" (.cons (.cst (.int 3)) (.cons (.var 2) (.cons (.lst (.cons (.var 11) .nil)) (.cons (.cst (.str (st "disk"))) (.cons (.var 11) .nil))))))) (.cons (.ret (.cst (.bl false))) .nil) .nil) .nil)))))) D W' [some (.ref n), some (.int m), some (.ref f), x3, some (.ref p), some (pgA ns), some (.ref g), x7, x8, x9, x10, x11, x12] h := by
  have hl := hb.lt
  have fw := d.few
  subst em
  (fail "zx")
  rename_i w dw h1 bw k1 l1 b1 r h2 r0 r1 k2 l2 b2 h3 k3 l3 g3 r' h4 r0' r1' k4 l4 b4
  have q1 := b1.lt
  refine mn_l (P := fun _ => True) (by (fail "hg")) r0' (by show r' < 2; omega) (fun _ _ => trivial) ?_
  intro u _
  (fail "zx")
  rename_i h5 k5 l5 g5
  have b5 : Bx h5 n := by (fail "bx")
  have e5 : Ke [n] h1 h5 := by (fail "ke")
  have d5 := d.ke1 (k1.tr e5) nf
  have w5 := bw.ke e5
  have p5 := (k1.tr e5).get (nm1 (Ne.symm np)) hp
  have hw5 : Kw n h h5 := ⟨k1.tr e5⟩
  clear hp k1 k2 k3 k4 k5 e5
  obtain ⟨i, rfl⟩ := Int.eq_ofNat_of_zero_le r0
  refine due_ok (k := k + 1) (C := "NoPage") (fl := "found") (wd := "page") (by simp [clsL]) (asked0 g5 rfl d5.obj fun Q' X' hX => write_no2 (k := k + 2) d5 (by omega) (dn0 w5.dn) w5.np hX) (dn0 w5.dn) (w5.nc.mono (by decide)) (by have := w5.bk; omega) ?_
  intro h6 k6
  (fail "zx")
  rename_i a hA a0 a1 kA lA bA h7 k7 l7 g7 h8 k8 l8 g8 h9 k9 l9 g9 h10 k10 l10 g10 h11 k11 l11 g11 h12 k12 l12 g12 h13 k13 l13 g13 h14 k14 l14 g14 h15 k15 l15 g15 r2 h16 r20 r21 k16 l16 b16
  have qA := bA.lt
  have g15' := k16.get (nm1 (by omega)) g15
  have g11' : h16[h10.length]? = _ := Ke.get (S := [n]) (h := h11) (by (fail "ke")) (nm1 (by omega)) g11
  have K16 : Ke [n] hA h16 := by (fail "ke")
  have KA : Ke [n] h h16 := hw5.w.tr ((k6.up.tr kA).tr K16)
  have d16 := d.ke1 KA nf
  have w16 := w5.ke ((k6.up.tr kA).tr K16)
  have KW : Kw n h h16 := ⟨KA⟩
  clear KA K16 k7 k8 k9 k10 k11 k12 k13 k14 k15 k16 kA k6 hw5
  have P1 : ∀ ns ∈ rows.take a.toNat, PgI ns := fun ns m => d.pg ns (List.mem_of_mem_take m)
  have P2 : ∀ ns ∈ rows.drop a.toNat, PgI ns := fun ns m => d.pg ns (List.mem_of_mem_drop m)
  have B1 := pgs_bk P1
  have B2 := pgs_bk P2
  have N1 := pgs_nc P1
  have N2 := pgs_nc P2
  have L1 : (rows.take a.toNat).length ≤ 40 := by rw [List.length_take]; omega
  have L2 : (rows.drop a.toNat).length ≤ 40 := by rw [List.length_drop]; omega
  have bw16 := w16.bk
  have L3 : (rows.take a.toNat).length + (rows.drop a.toNat).length = rows.length := by rw [List.length_take, List.length_drop]; omega
  obtain rfl | rfl : r2 = 0 ∨ r2 = 1 := by omega
  · (fail "zx")
    rw [if_neg (by simp only [decide_eq_true_eq, List.length_append, List.length_map, List.length_cons, List.length_nil]; omega)]
    (fail "zx")
    rename_i h17 k17 l17 g17
    have w17 := w16.ke k17.up
    have b17 : Bx h17 n := by (fail "bx")
    have dl : DnL [] h17 (List.map pgA (List.take a.toNat rows) ++ [w] ++ List.map pgA (List.drop a.toNat rows)) (List.map pgD (List.take a.toNat rows) ++ [dw] ++ List.map pgD (List.drop a.toNat rows)) := dnl_app (dnl_app (pgs_dn _) (.cons (dn0 w17.dn) .nil)) (pgs_dn _)
    have dv : Dn [] h17 (.ref h10.length) (.list (List.map pgD (List.take a.toNat rows) ++ [dw] ++ List.map pgD (List.drop a.toNat rows))) := .lst nm0 (k17.get nm0 g11') dl
    refine due_ok (k := k + 1) (C := "NoDisk") (fl := "found") (wd := "disk") (by simp [clsL]) (asked3 g17 fun Q' X' hX => diskof_no (k := k + 2) dv (diskL_no (d := dw) (by simp) w17.np) hX) dv ((nc_list (ncl_app (ncl_app N1 (ncl_cons w17.nc ncl_nil)) N2)).mono (by decide)) (by simp only [PyData.bulk, bulk_app, PyData.bulkAll]; omega) ?_
    intro h18 k18
    (fail "zx")
    exact hD _ _ _ _ (KW.w.tr (k17.up.tr k18.up)) (by (fail "bx"))
  · (fail "zx")
    refine dec_ite (fun hc => ?_) (fun hc => ?_)
    · simp only [List.length_append, List.length_map, List.length_cons, List.length_nil] at hc
      (fail "zx")
      rename_i h17 k17 l17 g17
      have w17 := w16.ke k17.up
      have b17 : Bx h17 n := by (fail "bx")
      have dl0 : DnL [] h17 (List.map pgA (List.take a.toNat rows) ++ [w, .non]) (List.map pgD (List.take a.toNat rows) ++ [dw, .none]) := dnl_app (pgs_dn _) (.cons (dn0 w17.dn) (.cons .non .nil))
      have nc0 : NcL (List.map pgD (List.take a.toNat rows) ++ [dw, .none]) 55 := ncl_app N1 (ncl_cons w17.nc (ncl_cons nc_non ncl_nil))
      have dv : Dn [] h17 (.tup (_ ++ _ ++ _ ++ _)) (.tuple (_ ++ _ ++ _ ++ _)) := .tup (dnl_app (dnl_app (dnl_app dl0 dl0) dl0) dl0)
      refine due_ok (k := k + 1) (C := "NoDisk") (fl := "found") (wd := "disk") (by simp [clsL]) (asked3 g17 fun Q' X' hX => diskof_no (k := k + 2) dv (diskL_no (d := dw) (by simp) w17.np) hX) dv ((nc_tup (ncl_app (ncl_app (ncl_app nc0 nc0) nc0) nc0)).mono (by decide)) (by simp only [PyData.bulk, bulk_app, PyData.bulkAll]; omega) ?_
      intro h18 k18
      (fail "zx")
      exact hD _ _ _ _ (KW.w.tr (k17.up.tr k18.up)) (by (fail "bx"))
    · (fail "zx")
      rename_i h17 k17 l17 g17
      have w17 := w16.ke k17.up
      have b17 : Bx h17 n := by (fail "bx")
      have dv : Dn [] h17 (.tup (List.map pgA (List.take a.toNat rows) ++ [w, .non])) (.tuple (List.map pgD (List.take a.toNat rows) ++ [dw, .none])) := .tup (dnl_app (pgs_dn _) (.cons (dn0 w17.dn) (.cons .non .nil)))
      refine due_ok (k := k + 1) (C := "NoDisk") (fl := "found") (wd := "disk") (by simp [clsL]) (asked3 g17 fun Q' X' hX => diskof_no (k := k + 2) dv (diskL_no (d := dw) (by simp) w17.np) hX) dv ((nc_tup (ncl_app N1 (ncl_cons w17.nc (ncl_cons nc_non ncl_nil)))).mono (by decide)) (by simp only [PyData.bulk, bulk_app, PyData.bulkAll]; omega) ?_
      intro h18 k18
      (fail "zx")
      exact hD _ _ _ _ (KW.w.tr (k17.up.tr k18.up)) (by (fail "bx"))
end
end My

/-! a case -/
namespace My
open Z PySem L2
section
variable {k : Nat} {h : Hh} {n : Nat} {Q : QV} {X : XQ} {f s : Nat} {rs : List Nat} {rows : List (List Int)}
theorem pgs_ly0 : ∀ rows : List (List Int), LyL (rows.map pgD) 63
  | [] => lyl_nil
  | ns :: r => lyl_cons (ly_tup lyl_ints) (pgs_ly0 r)
theorem pgs_ly (rows : List (List Int)) : Ly (.list (rows.map pgD)) 64 := ly_list (pgs_ly0 rows)
theorem case_ok (hb : Bx h n) (hQ : ∀ h', Q (.bl true) h') : Γ pg (k + 10) (.d "_law_case") [.ref n] h Q X := by
  have hl := hb.lt
  refine Γ_def (fn := f__law_case) rfl rfl ?_
  unfold f__law_case
  (fail "zx")
  rename_i r h1 r0 r1 k1 l1 b1 h2 k2 l2 g2
  have q1 := b1.lt
  obtain ⟨m, em⟩ := Int.eq_ofNat_of_zero_le (show 0 ≤ 4 + r by omega)
  rw [em]
  refine disk_ok (k := k + 6) g2 (by omega) (by omega) ?_
  intro h3 s rs k3 s3 l3 r3 s4 d3
  have b3 : Bx h3 n := by (fail "bx")
  (fail "zx")
  rename_i r2 h4 r20 r21 k4 l4 b4
  have nf : n < h1.length := q1
  have d4 := d3.ke1 k4 nf
  refine for_inv (fun i σ h' => ∃ x3 x12 rows, σ = [some (.ref n), some (.int m), some (.ref h1.length), x3, none, none, none, none, none, none, none, none, x12] ∧ Bx h' n ∧ Dk h' h1.length s rs rows ∧ rows.length = m ∧ h3.length ≤ h'.length) ⟨_, _, _, rfl, b4, d4, by rw [List.length_replicate], by omega⟩ (fun _ _ _ _ _ => gd0) ?_ ?_
  · rintro i x σ h5 ex ⟨x3, x12, rows, rfl, b5, d5, e5, l5⟩
    have e1 := d5.obj
    have q5 := b5.lt
    (fail "zx")
    rename_i rr h6 r60 r61 k6 l6 b6
    have q6 := b6.lt
    have d6 := d5.ke1 k6 nf
    obtain ⟨j, rfl⟩ := Int.eq_ofNat_of_zero_le r60
    refine lc_draw (fun _ v => ∃ r, v = .int r ∧ W r) b6 (by rw [rngA_len]; decide) (fun _ _ => gd0) ?_ ?_
    · intro i x h7 e k7 l7 b7
      (fail "zx")
      rename_i w h8 hw k8 l8 b8
      exact ⟨⟨_, rfl, ⟨_, rfl, hw⟩, by (fail "ke"), by (fail "bx")⟩⟩
    intro acc h7 a1 a2 k7 l7 b7 g7
    rw [rngA_len] at a1
    obtain ⟨ns, rfl, hW⟩ := ints_of (P := W) fun v mv => (all_get a2 v mv).imp fun r e => ⟨e.1, e.2⟩
    rw [List.length_map] at a1
    have d7 := d6.ke1 k7 nf
    have e7 := d7.obj
    have p7 : PgI ns := ⟨a1, hW⟩
    have dl := d7.len
    obtain ⟨rj, er⟩ : ∃ r, rs[j]? = some r := ⟨_, List.getElem?_eq_getElem (by omega)⟩
    obtain ⟨old, eo⟩ : ∃ o, rows[j]? = some o := ⟨_, List.getElem?_eq_getElem (by omega)⟩
    (fail "zx")
    refine write_non (k := k + 5) d7 er eo p7 (fun r m => by have := r3 r m; omega) ?_
    intro h8 k8 l8 d8
    (fail "zx")
    have b8 : Bx h8 n := b7.ke k8 (nm1 (by
      have := d7.low.1
      have := d7.low.2 rj (List.mem_of_getElem? er)
      omega))
    exact Ok.mk ⟨_, _, _, rfl, b8, d8, by rw [List.length_set]; exact e5, by omega⟩
  · rintro σ h5 ⟨x3, x12, rows, rfl, b5, d5, e5, l5⟩
    have q5 := b5.lt
    have e1 := d5.obj
    (fail "zx")
    refine pages_ok (k := k + 8) d5 ?_
    intro h6 p k6 p1 p2 g6
    have b6 : Bx h6 n := by (fail "bx")
    have d6 := d5.ke0 k6
    (fail "zx")
    rename_i r5 h7 r50 r51 k7 l7 b7
    have fw := d5.few
    refine mn_l (P := fun v => ∃ ns ∈ rows, v = pgA ns) (by (fail "hg")) r50 (by rw [List.length_map]; omega) (fun x m => by obtain ⟨ns, mn, rfl⟩ := List.mem_map.mp m; exact ⟨ns, mn, rfl⟩) ?_
    rintro v ⟨ns, mn, rfl⟩
    (fail "zx")
    rename_i r8 h8 r80 r81 k8 l8 b8 h9 k9 l9 g9
    refine power_int (k := k + 7) g9 r80 ?_
    intro h10 k10 l10 g10
    have b10 : Bx h10 n := by (fail "bx")
    have e10 : Ke [n] h6 h10 := by (fail "ke")
    have d10 := d6.ke1 e10 nf
    have p10 := e10.get (nm1 (by omega)) g6
    have q10 := b10.lt
    clear k7 k8 k9 k10 e10 g6
    (fail "zx")
    rename_i rz h11 rz0 rz1 k11 l11 b11 h12 k12 l12 g12 h13 k13 l13 g13 h14 k14 l14 g14
    have b14 : Bx h14 n := by (fail "bx")
    have gA : h14[h11.length]? = some (.lst [.int 0]) := by (fail "hg")
    have gB : h14[h12.length]? = some (.dK []) := by (fail "hg")
    have e14 : Ke [n] h10 h14 := by (fail "ke")
    have q11 := b11.lt
    have d14 := d10.ke1 e14 nf
    have p14 := e14.get (nm1 (by omega)) p10
    have g14' := e14.get (nm1 (by omega)) g10
    have q14 := b14.lt
    clear e14 k11 k12 k13 k14
    refine for_k2 [7, 8] rfl [n] (fun _ h' => Bx h' n) ?_ (by intro _ _; (fail "gd")) ?_ ?_ <;> try simp only [fj, List.zip_cons_cons, List.zip_nil_left, List.zip_nil_right, List.foldl_cons, List.foldl_nil, List.set_cons_succ, List.set_cons_zero]
    · exact b14
    · intro i x h15 ei k15 b15 y7 y8
      have e29 : (10 : Int) ^ Int.toNat 29 = 100000000000000000000000000000 := by decide
      have w : ∃ d, NumB m n h14 x d := by
        refine (?_ : ∀ x ∈ _, ∃ d, NumB m n h14 x d) x (List.mem_of_getElem? ei)
        repeat' refine mem_c ?_ ?_
        · exact ⟨_, .int _, by simp only [wiD, decide_eq_false_iff_not]; omega, nc_int (by omega), by show 0 ≤ _; omega⟩
        · exact ⟨_, .int _, by simp only [wiD, decide_eq_false_iff_not]; omega, nc_int (by omega), by show 0 ≤ _; omega⟩
        · exact ⟨_, .int _, by simp only [wiD, decide_eq_false_iff_not]; omega, nc_int (by omega), by show 0 ≤ _; omega⟩
        · exact ⟨_, .non, rfl, nc_non, by decide⟩
        · exact ⟨_, .bl _, rfl, nc_bl, by decide⟩
        · exact ⟨_, .bl _, rfl, nc_bl, by decide⟩
        · exact ⟨_, .str _, rfl, nc_str (sg_ofString _), by decide⟩
        · exact ⟨_, .tup (.cons (.int 0) .nil), rfl, (nc_c (by decide +kernel)).mono (by decide), by decide⟩
        · exact ⟨_, .lst (by (fail "ne")) gA (.cons (.int 0) .nil), rfl, (nc_c (by decide +kernel)).mono (by decide), by decide⟩
        · exact ⟨_, .dct (by (fail "ne")) gB .nil, rfl, (nc_c (by decide +kernel)).mono (by decide), by decide⟩
        · exact ⟨_, .int _, by simp only [wiD, decide_eq_false_iff_not, e29]; omega, nc_int (by decide), by decide⟩
        · exact fun _ m => by cases m
      obtain ⟨dv, nb⟩ := w
      refine turnA (k := k) b15 nf (d14.ke1 k15 nf) (by omega) (nb.ke k15) ?_
      intro x8 h16 k16 b16
      (fail "zx")
      exact Ok.mk ⟨_, _, rfl, k15.tr k16, b16⟩
    intro h15 k15 b15 y7 y8
    (fail "zx")
    refine for_k4 [3, 9, 10, 11] rfl [n] (fun _ h' => Bx h' n) ?_ (by intro _ _; (fail "gd")) ?_ ?_ <;> try simp only [fj, List.zip_cons_cons, List.zip_nil_left, List.zip_nil_right, List.foldl_cons, List.foldl_nil, List.set_cons_succ, List.set_cons_zero]
    · exact b15
    · intro i x h16 ei k16 b16 y3 y9 y10 y11
      have kk := k15.tr k16
      refine turnB (k := k) b16 nf (d14.ke1 kk nf) (by omega) (by omega) (kk.get (nm1 (by omega)) p14) (by omega) ?_
      intro x9 x10 x11 h17 k17 b17
      (fail "zx")
      exact Ok.mk ⟨_, _, _, _, rfl, k16.tr k17, b17⟩
    intro h16 k16 b16 y3 y9 y10 y11
    have kk := k15.tr k16
    have d16 := d14.ke1 kk nf
    have e16 := d16.obj
    have p16 := kk.get (nm1 (by omega)) p14
    have g16 := kk.get (nm1 (by omega)) g14'
    clear kk k15 k16
    (fail "zx")
    refine written_ok (k := k + 8) g16 ?_
    (fail "zx")
    refine pages_ok (k := k + 8) d16 ?_
    intro h17 p2 k17 s17 l17 g17
    have b17 : Bx h17 n := by (fail "bx")
    have d17 := d16.ke0 k17
    have e17 := d17.obj
    have p17 := k17.get nm0 p16
    (fail "zx")
    refine c_neT (d := .list (rows.map pgD)) rfl (Dn.lst nm0 g17 (pgs_dn rows)).da (Dn.lst nm0 p17 (pgs_dn rows)).da (pgs_ly rows) ?_
    (fail "zx")
    rename_i h18 k18 l18 g18
    refine power_int (k := k + 7) g18 (by decide) ?_
    intro h19 k19 l19 g19
    (fail "zx")
    rename_i h20 k20 l20 g20
    have e20 : Ke [] h17 h20 := by (fail "ke")
    have d20 := d17.ke0 e20
    have p20 := e20.get nm0 p17
    have g21 := k20.get nm0 g19
    have b20 : Bx h20 n := b17.ke e20 nm0
    have o20 := d20.obj
    refine due_ok (k := k + 1) (C := "Dark") (fl := "many") (wd := "dark") (by simp [clsL]) (asked0 g20 rfl d20.obj fun Q' X' hX => write_dark (k := k + 2) (i := 0) d20 (by omega) (d20.pg ns mn) g21 hX) (.int 0) (nc_int (by decide)) (by decide) ?_
    intro h21 k21
    have d21 := d20.ke0 k21
    have o21 := d21.obj
    have p21 := k21.get nm0 p20
    (fail "zx")
    refine pages_ok (k := k + 8) d21 ?_
    intro h22 p3 k22 s22 l22 g22
    have p22 := k22.get nm0 p21
    (fail "zx")
    refine c_eqT (d := .list (rows.map pgD)) rfl (Dn.lst nm0 g22 (pgs_dn rows)).da (Dn.lst nm0 p22 (pgs_dn rows)).da (pgs_ly rows) ?_
    (fail "zx")
    exact hQ _
end
end My

/-! the law -/
namespace My
open Z PySem L2
section
variable {k : Nat} {h : Hh} {n : Nat} {Q : QV} {X : XQ}
theorem due2_ok {w dd t v v2 : A} {d : PyData} {C fl wd : String} (hc : (C, fl, wd) ∈ clsL) (ha : Rz k h w dd t C fl v) (wv : Dn [] h v d) (wv2 : Dn [] h v2 d) (nc : Nc d 60) (bk : d.bulk ≤ 2 ^ 17)
    (hQ : ∀ h', Ke [] h h' → Q (.bl true) h') : Γ pg (k + 8) (.d "_law_due") [w, dd, t, .str (st wd), v2] h Q X := by
  refine Γ_def (fn := f__law_due) rfl rfl ?_
  unfold f__law_due
  (fail "zx")
  refine refused_ok (k := k) hc ha wv nc bk ?_
  intro h1 p k1 l1 l2 g1
  have w1 := wv2.ke k1
  have e2 : Sg (st wd) := sg_ofString _
  (fail "zx")
  have ly : Ly (.list [.str (st wd), .str d.shown, .bool false, .bool true]) 64 := by (fail "ly")
  rw [eqv_ok ly.lay]
  exact hQ _ (by (fail "ke"))
/-- a thing, and what it isn't -/
structure Odd (P : PyData → Prop) (h : Hh) (v : A) (d : PyData) : Prop where
  dn : Dn [] h v d
  no : P d
  nc : Nc d 60
  bk : d.bulk ≤ 2 ^ 17
theorem Odd.ke {P : PyData → Prop} {h h' : Hh} {v : A} {d : PyData} (w : Odd P h v d) (k : Ke [] h h') : Odd P h' v d := ⟨w.dn.ke k, w.no, w.nc, w.bk⟩
theorem law_ok (ns : List Int) (hl : ns.length ≤ 63) : Γ pg (k + 11) (.d "law") [.fro (ns.map A.int)] [] (fun v _ => v = .bl true) (fun _ _ _ _ => False) := by
  refine Γ_def (fn := f_law) rfl rfl ?_
  unfold f_law
  (fail "zs")
  refine for_inv (fun i σ h' => ∃ x1, σ = [some (.fro (ns.map A.int)), x1, none, none, none]) ⟨_, rfl⟩ (fun _ _ _ _ _ => gd0) ?_ ?_
  · rintro i x σ h e ⟨x1, rfl⟩
    obtain ⟨hi, rfl⟩ := rngA_get e
    have hi : i < 6 := by
      rw [List.length_map] at hi
      split at hi <;> (try split at hi) <;> omega
    (fail "zs")
    refine box_ok ?_
    intro h1 b1 k1 l1
    (fail "zx")
    refine case_ok (k := k) b1 ?_
    intro h2
    (fail "zs")
    exact Ok.mk ⟨_, rfl⟩
  · rintro σ h ⟨x1, rfl⟩
    (fail "zx")
    rename_i h1 k1 l1 g1 h2 k2 l2 g2 h3 k3 l3 g3
    have g1' : h3[h.length]? = _ := k3.get nm0 (k2.get nm0 g1)
    have g2' : h3[h1.length]? = _ := k3.get nm0 g2
    clear k1 k2 k3
    refine for_k1 [3] rfl [] (fun _ _ => True) trivial (by intro _ _; (fail "gd")) ?_ ?_ <;> try simp only [fj, List.zip_cons_cons, List.zip_nil_left, List.zip_nil_right, List.foldl_cons, List.foldl_nil, List.set_cons_succ, List.set_cons_zero]
    · intro i x h4 ei k4 _ y3
      have w : ∃ d, Odd (fun d => wiD d 4 512 = false) h3 x d := by
        refine (?_ : ∀ x ∈ _, ∃ d, Odd (fun d => wiD d 4 512 = false) h3 x d) x (List.mem_of_getElem? ei)
        repeat' refine mem_c ?_ ?_
        · exact ⟨_, .non, rfl, nc_non, by decide⟩
        · exact ⟨_, .int _, by decide, nc_int (by decide), by decide⟩
        · exact ⟨_, .int _, by decide, nc_int (by decide), by decide⟩
        · exact ⟨_, .int _, by decide, nc_int (by decide), by decide⟩
        · exact ⟨_, .int _, by decide, nc_int (by decide), by decide⟩
        · exact ⟨_, .bl _, rfl, nc_bl, by decide⟩
        · exact ⟨_, .str _, rfl, nc_str (sg_ofString _), by decide⟩
        · exact ⟨_, .tup (.cons (.int 4) .nil), rfl, (nc_c (by decide +kernel)).mono (by decide), by decide⟩
        · exact ⟨_, .lst nm0 g1' (.cons (.int 4) .nil), rfl, (nc_c (by decide +kernel)).mono (by decide), by decide⟩
        · exact ⟨_, .dct nm0 g2' .nil, rfl, (nc_c (by decide +kernel)).mono (by decide), by decide⟩
        · exact ⟨_, .int _, by decide, nc_int (by decide), by decide⟩
        · exact fun _ m => by cases m
      obtain ⟨d, w⟩ := w
      have w := w.ke k4
      (fail "zx")
      rename_i h5 k5 l5 g5
      have w := w.ke k5
      refine due_ok (k := k + 2) (C := "NoDisk") (fl := "found") (wd := "disk") (by simp [clsL]) (asked2 g5 fun Q' X' hh nn kk gg hX => disk_no (k := k + 4) (w.dn.ke kk).da gg w.no hX) w.dn w.nc w.bk ?_
      intro h6 k6
      (fail "zx")
      exact Ok.mk ⟨_, rfl, by (fail "ke"), trivial⟩
    intro h4 k4 _ y3
    clear k4 g1' g2' g1 g2 g3 l1 l2 l3
    (fail "zx")
    rename_i h5 k5 l5 g5 h6 k6 l6 g6 h7 k7 l7 g7 h8 k8 l8 g8 h9 k9 l9 g9 h10 k10 l10 g10 h11 k11 l11 g11 h12 k12 l12 g12 h13 k13 l13 g13
    have f6 : h13[h5.length]? = some (.lst (([z20, z20, z20] : List (List Int)).map pgA)) := by
      have := (((((((k13.get nm0 (k12.get nm0 (k11.get nm0 (k10.get nm0 (k9.get nm0 (k8.get nm0 (k7.get nm0 g6)))))))))))))
      exact this
    have f7 : h13[h6.length]? = some (.dK []) := k13.get nm0 (k12.get nm0 (k11.get nm0 (k10.get nm0 (k9.get nm0 (k8.get nm0 g7)))))
    have f9 : h13[h8.length]? = some (.lst [.non, .non, .non, .non]) := k13.get nm0 (k12.get nm0 (k11.get nm0 (k10.get nm0 g9)))
    have f10 : h13[h9.length]? = some (.lst (z20.map A.int)) := k13.get nm0 (k12.get nm0 (k11.get nm0 g10))
    have f12 : h13[h11.length]? = some (.lst [.ref h9.length, .ref h9.length, .ref h9.length, .ref h9.length]) := k13.get nm0 g12
    clear k5 k6 k7 k8 k9 k10 k11 k12 k13
    refine for_k1 [3] rfl [] (fun _ _ => True) trivial (by intro _ _; (fail "gd")) ?_ ?_ <;> try simp only [fj, List.zip_cons_cons, List.zip_nil_left, List.zip_nil_right, List.foldl_cons, List.foldl_nil, List.set_cons_succ, List.set_cons_zero]
    · intro i x h14 ei k14 _ y3
      have w : ∃ d, Odd (fun d => diskD d = false) h13 x d := by
        refine (?_ : ∀ x ∈ _, ∃ d, Odd (fun d => diskD d = false) h13 x d) x (List.mem_of_getElem? ei)
        have z : Dn [] h13 (.ref h9.length) (.list (z20.map PyData.int)) := .lst nm0 f10 (DnL.ints _)
        repeat' refine mem_c ?_ ?_
        · exact ⟨_, .non, rfl, nc_non, by decide⟩
        · exact ⟨_, .int _, rfl, nc_int (by decide), by decide⟩
        · exact ⟨_, .str _, rfl, nc_str (sg_ofString _), by decide⟩
        · exact ⟨_, .tup .nil, rfl, (nc_c (by decide +kernel)).mono (by decide), by decide⟩
        · exact ⟨.list (([z20, z20, z20] : List (List Int)).map pgD), .lst nm0 f6 (pgs_dn _), by decide +kernel, (nc_c (by decide +kernel)).mono (by decide), by decide +kernel⟩
        · exact ⟨.tuple (([z20, z20, z20] : List (List Int)).map pgD), .tup (pgs_dn [z20, z20, z20]), by decide +kernel, (nc_c (by decide +kernel)).mono (by decide), by decide +kernel⟩
        · exact ⟨_, .dct nm0 f7 .nil, rfl, (nc_c (by decide +kernel)).mono (by decide), by decide⟩
        · exact ⟨_, .lst nm0 f9 (.cons .non (.cons .non (.cons .non (.cons .non .nil)))), by decide +kernel, (nc_c (by decide +kernel)).mono (by decide), by decide⟩
        · exact ⟨_, .str _, rfl, nc_str (sg_ofString _), by decide⟩
        · exact ⟨_, .bl _, rfl, nc_bl, by decide⟩
        · exact ⟨_, .lst nm0 f12 (.cons z (.cons z (.cons z (.cons z .nil)))), by decide +kernel, (nc_c (by decide +kernel)).mono (by decide), by decide +kernel⟩
        · exact fun _ m => by cases m
      obtain ⟨d, w⟩ := w
      have w := w.ke k14
      (fail "zx")
      rename_i h15 k15 l15 g15
      have w := w.ke k15
      refine due_ok (k := k + 2) (C := "NoDisk") (fl := "found") (wd := "disk") (by simp [clsL]) (asked3 g15 fun Q' X' hX => diskof_no (k := k + 3) w.dn w.no hX) w.dn w.nc w.bk ?_
      intro h16 k16
      (fail "zx")
      exact Ok.mk ⟨_, rfl, by (fail "ke"), trivial⟩
    intro h14 k14 _ y3
    clear k14 f6 f7 f9 f10 f12
    (fail "zx")
    rename_i h15 k15 l15 g15 h16 k16 l16 g16 h17 k17 l17 g17
    have f15 : h17[h14.length]? = some (.lst []) := k17.get nm0 (k16.get nm0 g15)
    have f16 : h17[h15.length]? = some (.dK []) := k17.get nm0 g16
    clear k15 k16 k17
    refine for_k1 [3] rfl [] (fun _ _ => True) trivial (by intro _ _; (fail "gd")) ?_ ?_ <;> try simp only [fj, List.zip_cons_cons, List.zip_nil_left, List.zip_nil_right, List.foldl_cons, List.foldl_nil, List.set_cons_succ, List.set_cons_zero]
    · intro i x h18 ei k18 _ y3
      have w : ∃ d, Odd (fun d => d ≠ .none ∧ ∀ i, d = .int i → i < 0) h17 x d := by
        refine (?_ : ∀ x ∈ _, ∃ d, Odd (fun d => d ≠ .none ∧ ∀ i, d = .int i → i < 0) h17 x d) x (List.mem_of_getElem? ei)
        repeat' refine mem_c ?_ ?_
        · exact ⟨_, .int _, ⟨(fun e => by cases e), (fun i e => by cases e; decide)⟩, nc_int (by decide), by decide⟩
        · exact ⟨_, .bl _, ⟨(fun e => by cases e), (fun i e => by cases e)⟩, nc_bl, by decide⟩
        · exact ⟨_, .bl _, ⟨(fun e => by cases e), (fun i e => by cases e)⟩, nc_bl, by decide⟩
        · exact ⟨_, .str _, ⟨(fun e => by cases e), (fun i e => by cases e)⟩, nc_str (sg_ofString _), by decide⟩
        · exact ⟨_, .tup (.cons (.int 5) .nil), ⟨(fun e => by cases e), (fun i e => by cases e)⟩, (nc_c (by decide +kernel)).mono (by decide), by decide⟩
        · exact ⟨_, .lst nm0 f15 .nil, ⟨(fun e => by cases e), (fun i e => by cases e)⟩, (nc_c (by decide +kernel)).mono (by decide), by decide⟩
        · exact ⟨_, .dct nm0 f16 .nil, ⟨(fun e => by cases e), (fun i e => by cases e)⟩, (nc_c (by decide +kernel)).mono (by decide), by decide⟩
        · exact ⟨_, .int _, ⟨(fun e => by cases e), (fun i e => by cases e; decide)⟩, nc_int (by decide), by decide⟩
        · exact fun _ m => by cases m
      obtain ⟨d, w⟩ := w
      have w := w.ke k18
      (fail "zx")
      rename_i h19 k19 l19 g19
      have w := w.ke k19
      refine due_ok (k := k + 2) (C := "NoNumber") (fl := "found") (wd := "number") (by simp [clsL]) (asked4 g19 fun Q' X' hh nn kk gg hX => power_no (k := k + 5) (w.dn.ke kk).da w.no.1 gg w.no.2 hX) w.dn w.nc w.bk ?_
      intro h20 k20
      (fail "zx")
      exact Ok.mk ⟨_, rfl, by (fail "ke"), trivial⟩
    intro h18 k18 _ y3
    clear k18 f15 f16
    (fail "zx")
    rename_i h19 k19 l19 g19
    clear g5 g6 g7 g8 g9 g10 g11 g12 g13 g15 g16 g17 l5 l6 l7 l8 l9 l10 l11 l12 l13 l15 l16 l17
    refine disk_ok (k := k + 7) (m := 512) g19 (by omega) (by omega) ?_
    intro h20 s rs k20 s20 l20 r20 q20 d20
    have e20 := d20.obj
    (fail "zx")
    refine pages_ok (k := k + 9) d20 ?_
    intro h21 p k21 p1 p2 g21
    clear k19 k20 k21
    obtain ⟨B, hB⟩ : ∃ B, B = List.replicate 512 z20 := ⟨_, rfl⟩
    rw [← hB] at g21
    have lB : B.length = 512 := by rw [hB, List.length_replicate]
    have pB : ∀ ns ∈ B, PgI ns := fun ns m => by
      rw [hB] at m
      rw [List.eq_of_mem_replicate m]
      exact pgi_z
    clear d20 hB
    (fail "zx")
    rename_i h22 k22 l22 g22 h23 k23 l23 g23 h24 k24 l24 g24 h25 k25 l25 g25 h26 k26 l26 g26
    have pC : ∀ ns ∈ B ++ List.take (Int.toNat 1) B, PgI ns := fun ns m => by
      rcases List.mem_append.mp m with m | m
      · exact pB ns m
      · exact pB ns (List.mem_of_mem_take m)
    have lC : (B ++ List.take (Int.toNat 1) B).length = 513 := by
      rw [List.length_append, List.length_take, lB]
      rfl
    obtain ⟨C, hC⟩ : ∃ C, C = B ++ List.take (Int.toNat 1) B := ⟨_, rfl⟩
    rw [← hC] at g23 g26 pC lC
    have f23 := k26.get nm0 (k25.get nm0 (k24.get nm0 g23))
    have f24 := k26.get nm0 (k25.get nm0 g24)
    have dv : Dn [] h26 (.ref h22.length) (.list (C.map pgD)) := .lst nm0 f23 (pgs_dn C)
    have dw : Dn [] h26 (.ref h25.length) (.list (C.map pgD)) := .lst nm0 g26 (pgs_dn C)
    have no : diskD (.list (C.map pgD)) = false := by
      have : decide (4 ≤ (C.map pgD).length ∧ (C.map pgD).length ≤ 512) = false := by rw [List.length_map, lC]; rfl
      simp only [diskD, diskL, this, Bool.false_and]
    have bC := pgs_bk pC
    refine due2_ok (k := k + 2) (C := "NoDisk") (fl := "found") (wd := "disk") (by simp [clsL]) (asked3 f24 fun Q' X' hX => diskof_no (k := k + 3) dv no hX) dv dw ((nc_list (pgs_nc pC)).mono (by decide)) (by simp only [PyData.bulk]; omega) ?_
    intro h27 k27
    have f21 := k27.get nm0 (k26.get nm0 (k25.get nm0 (k24.get nm0 (k23.get nm0 (k22.get nm0 g21)))))
    clear k22 k23 k24 k25 k26 k27 f23 f24
    (fail "zx")
    refine diskof_ok (k := k + 5) (.lst f21) (by omega) (by omega) pB ?_
    intro h28 f2 s2 rs2 k28 f28 l28 r28 d28
    have e28 := d28.obj
    (fail "zx")
    refine many_ok (k := k + 9) d28 ?_
    rw [lB]
    (fail "zx")
    rename_i h29 k29 l29 g29
    refine disk_ok (k := k + 7) (m := 4) g29 (by omega) (by omega) ?_
    intro h30 s3 rs3 k30 s30 l30 r30 q30 d30
    have e30 := d30.obj
    (fail "zx")
    refine pages_ok (k := k + 9) d30 ?_
    intro h31 p3 k31 p31 p32 g31
    clear k29 k30 k31 d30
    (fail "zx")
    rename_i h32 k32 l32 g32 h33 k33 l33 g33
    have f31 := k33.get nm0 (k32.get nm0 g31)
    have f33 : h33[h32.length]? = some (.lst (((List.replicate 4 z20) : List (List Int)).map pgA)) := g33
    refine c_eqT (d := .list ((List.replicate 4 z20).map pgD)) rfl (Dn.lst nm0 f31 (pgs_dn _)).da (Dn.lst nm0 f33 (pgs_dn _)).da (pgs_ly _) ?_
    (fail "zx")
    rename_i h34 k34 l34 g34
    refine power_int (k := k + 8) g34 (by decide) ?_
    intro h35 k35 l35 g35
    (fail "zx")
    refine left_ok (k := k + 9) g35 ?_
    (fail "zx")
    rename_i h36 k36 l36 g36
    refine disk_ok (k := k + 7) (m := 512) g36 (by omega) (by omega) ?_
    intro h37 s4 rs4 k37 s37 l37 r37 q37 d37
    have e37 := d37.obj
    (fail "zx")
    refine many_ok (k := k + 9) d37 ?_
    rw [List.length_replicate]
    (fail "zx")
    rfl
end
end My

namespace My
open PySem PySem.Spec PyProof.Rows L2 Z
def topS (i : Nat) : Stmt := PySem.Challenge.pw_leastlore_k07_disks_refused.main.body.getD i (.Pass ⟨0, 0, 0, 0⟩)
abbrev s__law_asked : Stmt := topS 28
abbrev N__law_asked : List PySem.Str := ["_law_way", "_law_disk", "_law_things"]
theorem sc__law_asked : FnScope N__law_asked (f__law_asked.ps.map st) (defScope s__law_asked) := ⟨rfl, rfl, rfl, by decide +kernel, rfl, by decide +kernel, by decide +kernel⟩
theorem y__law_asked : (ySs N__law_asked none (defScope s__law_asked) f__law_asked.body (defBody s__law_asked)).isSome = true := by decide +kernel
abbrev s__law_box : Stmt := topS 22
abbrev N__law_box : List PySem.Str := ["_law_cell"]
theorem sc__law_box : FnScope N__law_box (f__law_box.ps.map st) (defScope s__law_box) := ⟨rfl, rfl, rfl, by decide +kernel, rfl, by decide +kernel, by decide +kernel⟩
theorem y__law_box : (ySs N__law_box none (defScope s__law_box) f__law_box.body (defBody s__law_box)).isSome = true := by decide +kernel
abbrev s__law_case : Stmt := topS 32
abbrev N__law_case : List PySem.Str := ["_law_box_here", "_law_many", "_law_disk", "_law_k", "_law_pages", "_law_good", "_law_gone", "_law_number", "_law_numbers", "_law_bad", "_law_at", "_law_told", "_law_j"]
theorem sc__law_case : FnScope N__law_case (f__law_case.ps.map st) (defScope s__law_case) := ⟨rfl, rfl, rfl, by decide +kernel, rfl, by decide +kernel, by decide +kernel⟩
theorem y__law_case : (ySs N__law_case none (defScope s__law_case) f__law_case.body (defBody s__law_case)).isSome = true := by decide +kernel
abbrev s__law_cell_at : Stmt := topS 21
abbrev N__law_cell_at : List PySem.Str := ["_law_script", "_law_k"]
theorem sc__law_cell_at : FnScope N__law_cell_at (f__law_cell_at.ps.map st) (defScope s__law_cell_at) := ⟨rfl, rfl, rfl, by decide +kernel, rfl, by decide +kernel, by decide +kernel⟩
theorem y__law_cell_at : (ySs N__law_cell_at none (defScope s__law_cell_at) f__law_cell_at.body (defBody s__law_cell_at)).isSome = true := by decide +kernel
abbrev s__law_due : Stmt := topS 30
abbrev N__law_due : List PySem.Str := ["_law_way", "_law_disk", "_law_things", "_law_word_here", "_law_thing"]
theorem sc__law_due : FnScope N__law_due (f__law_due.ps.map st) (defScope s__law_due) := ⟨rfl, rfl, rfl, by decide +kernel, rfl, by decide +kernel, by decide +kernel⟩
theorem y__law_due : (ySs N__law_due none (defScope s__law_due) f__law_due.body (defBody s__law_due)).isSome = true := by decide +kernel
abbrev s__law_no_page : Stmt := topS 31
abbrev N__law_no_page : List PySem.Str := ["_law_box_here", "_law_some"]
theorem sc__law_no_page : FnScope N__law_no_page (f__law_no_page.ps.map st) (defScope s__law_no_page) := ⟨rfl, rfl, rfl, by decide +kernel, rfl, by decide +kernel, by decide +kernel⟩
theorem y__law_no_page : (ySs N__law_no_page none (defScope s__law_no_page) f__law_no_page.body (defBody s__law_no_page)).isSome = true := by decide +kernel
abbrev s__law_refused : Stmt := topS 29
abbrev N__law_refused : List PySem.Str := ["_law_way", "_law_disk", "_law_things", "_law_found", "e"]
theorem sc__law_refused : FnScope N__law_refused (f__law_refused.ps.map st) (defScope s__law_refused) := ⟨rfl, rfl, rfl, by decide +kernel, rfl, by decide +kernel, by decide +kernel⟩
theorem y__law_refused : (ySs N__law_refused none (defScope s__law_refused) f__law_refused.body (defBody s__law_refused)).isSome = true := by decide +kernel
abbrev s__law_take : Stmt := topS 23
abbrev N__law_take : List PySem.Str := ["_law_box_here", "_law_many", "_law_number", "_law_digit"]
theorem sc__law_take : FnScope N__law_take (f__law_take.ps.map st) (defScope s__law_take) := ⟨rfl, rfl, rfl, by decide +kernel, rfl, by decide +kernel, by decide +kernel⟩
theorem y__law_take : (ySs N__law_take none (defScope s__law_take) f__law_take.body (defBody s__law_take)).isSome = true := by decide +kernel
abbrev s__law_word : Stmt := topS 26
abbrev N__law_word : List PySem.Str := ["_law_box_here", "_law_some"]
theorem sc__law_word : FnScope N__law_word (f__law_word.ps.map st) (defScope s__law_word) := ⟨rfl, rfl, rfl, by decide +kernel, rfl, by decide +kernel, by decide +kernel⟩
theorem y__law_word : (ySs N__law_word none (defScope s__law_word) f__law_word.body (defBody s__law_word)).isSome = true := by decide +kernel
abbrev s_blank_page : Stmt := topS 13
abbrev N_blank_page : List PySem.Str := []
theorem sc_blank_page : FnScope N_blank_page (f_blank_page.ps.map st) (defScope s_blank_page) := ⟨rfl, rfl, rfl, by decide +kernel, rfl, by decide +kernel, by decide +kernel⟩
theorem y_blank_page : (ySs N_blank_page none (defScope s_blank_page) f_blank_page.body (defBody s_blank_page)).isSome = true := by decide +kernel
abbrev s_disk_of : Stmt := topS 19
abbrev N_disk_of : List PySem.Str := ["pages", "disk", "number", "one"]
theorem sc_disk_of : FnScope N_disk_of (f_disk_of.ps.map st) (defScope s_disk_of) := ⟨rfl, rfl, rfl, by decide +kernel, rfl, by decide +kernel, by decide +kernel⟩
theorem y_disk_of : (ySs N_disk_of none (defScope s_disk_of) f_disk_of.body (defBody s_disk_of)).isSome = true := by decide +kernel
abbrev s_is_page : Stmt := topS 12
abbrev N_is_page : List PySem.Str := ["thing", "number"]
theorem sc_is_page : FnScope N_is_page (f_is_page.ps.map st) (defScope s_is_page) := ⟨rfl, rfl, rfl, by decide +kernel, rfl, by decide +kernel, by decide +kernel⟩
theorem y_is_page : (ySs N_is_page none (defScope s_is_page) f_is_page.body (defBody s_is_page)).isSome = true := by decide +kernel
abbrev s_is_whole : Stmt := topS 7
abbrev N_is_whole : List PySem.Str := ["thing"]
theorem sc_is_whole : FnScope N_is_whole (f_is_whole.ps.map st) (defScope s_is_whole) := ⟨rfl, rfl, rfl, by decide +kernel, rfl, by decide +kernel, by decide +kernel⟩
theorem y_is_whole : (ySs N_is_whole none (defScope s_is_whole) f_is_whole.body (defBody s_is_whole)).isSome = true := by decide +kernel
abbrev s_is_within : Stmt := topS 8
abbrev N_is_within : List PySem.Str := ["thing", "low", "high"]
theorem sc_is_within : FnScope N_is_within (f_is_within.ps.map st) (defScope s_is_within) := ⟨rfl, rfl, rfl, by decide +kernel, rfl, by decide +kernel, by decide +kernel⟩
theorem y_is_within : (ySs N_is_within none (defScope s_is_within) f_is_within.body (defBody s_is_within)).isSome = true := by decide +kernel
abbrev s_law : Stmt := topS 33
abbrev N_law : List PySem.Str := ["_law_script", "_law_k", "_law_blank", "_law_thing", "_law_big"]
theorem sc_law : FnScope N_law (f_law.ps.map st) (defScope s_law) := ⟨rfl, rfl, rfl, by decide +kernel, rfl, by decide +kernel, by decide +kernel⟩
theorem y_law : (ySs N_law none (defScope s_law) f_law.body (defBody s_law)).isSome = true := by decide +kernel
abbrev s_Disk_init : Stmt := inClass (topS 18) 0
abbrev N_Disk_init : List PySem.Str := ["self", "many", "number"]
theorem sc_Disk_init : FnScope N_Disk_init (f_Disk_init.ps.map st) (defScope s_Disk_init) := ⟨rfl, rfl, rfl, by decide +kernel, rfl, by decide +kernel, by decide +kernel⟩
theorem y_Disk_init : (ySs N_Disk_init none (defScope s_Disk_init) f_Disk_init.body (defBody s_Disk_init)).isSome = true := by decide +kernel
abbrev s_Disk_how_many : Stmt := inClass (topS 18) 1
abbrev N_Disk_how_many : List PySem.Str := ["self"]
theorem sc_Disk_how_many : FnScope N_Disk_how_many (f_Disk_how_many.ps.map st) (defScope s_Disk_how_many) := ⟨rfl, rfl, rfl, by decide +kernel, rfl, by decide +kernel, by decide +kernel⟩
theorem y_Disk_how_many : (ySs N_Disk_how_many none (defScope s_Disk_how_many) f_Disk_how_many.body (defBody s_Disk_how_many)).isSome = true := by decide +kernel
abbrev s_Disk_need_number : Stmt := inClass (topS 18) 3
abbrev N_Disk_need_number : List PySem.Str := ["self", "number"]
theorem sc_Disk_need_number : FnScope N_Disk_need_number (f_Disk_need_number.ps.map st) (defScope s_Disk_need_number) := ⟨rfl, rfl, rfl, by decide +kernel, rfl, by decide +kernel, by decide +kernel⟩
theorem y_Disk_need_number : (ySs N_Disk_need_number none (defScope s_Disk_need_number) f_Disk_need_number.body (defBody s_Disk_need_number)).isSome = true := by decide +kernel
abbrev s_Disk_page_at : Stmt := inClass (topS 18) 4
abbrev N_Disk_page_at : List PySem.Str := ["self", "number"]
theorem sc_Disk_page_at : FnScope N_Disk_page_at (f_Disk_page_at.ps.map st) (defScope s_Disk_page_at) := ⟨rfl, rfl, rfl, by decide +kernel, rfl, by decide +kernel, by decide +kernel⟩
theorem y_Disk_page_at : (ySs N_Disk_page_at none (defScope s_Disk_page_at) f_Disk_page_at.body (defBody s_Disk_page_at)).isSome = true := by decide +kernel
abbrev s_Disk_pages : Stmt := inClass (topS 18) 2
abbrev N_Disk_pages : List PySem.Str := ["self", "sheet"]
theorem sc_Disk_pages : FnScope N_Disk_pages (f_Disk_pages.ps.map st) (defScope s_Disk_pages) := ⟨rfl, rfl, rfl, by decide +kernel, rfl, by decide +kernel, by decide +kernel⟩
theorem y_Disk_pages : (ySs N_Disk_pages none (defScope s_Disk_pages) f_Disk_pages.body (defBody s_Disk_pages)).isSome = true := by decide +kernel
abbrev s_Disk_write : Stmt := inClass (topS 18) 5
abbrev N_Disk_write : List PySem.Str := ["self", "number", "numbers", "power", "at", "one"]
theorem sc_Disk_write : FnScope N_Disk_write (f_Disk_write.ps.map st) (defScope s_Disk_write) := ⟨rfl, rfl, rfl, by decide +kernel, rfl, by decide +kernel, by decide +kernel⟩
theorem y_Disk_write : (ySs N_Disk_write none (defScope s_Disk_write) f_Disk_write.body (defBody s_Disk_write)).isSome = true := by decide +kernel
abbrev s_Power_init : Stmt := inClass (topS 17) 0
abbrev N_Power_init : List PySem.Str := ["self", "many"]
theorem sc_Power_init : FnScope N_Power_init (f_Power_init.ps.map st) (defScope s_Power_init) := ⟨rfl, rfl, rfl, by decide +kernel, rfl, by decide +kernel, by decide +kernel⟩
theorem y_Power_init : (ySs N_Power_init none (defScope s_Power_init) f_Power_init.body (defBody s_Power_init)).isSome = true := by decide +kernel
abbrev s_Power_left_over : Stmt := inClass (topS 17) 1
abbrev N_Power_left_over : List PySem.Str := ["self"]
theorem sc_Power_left_over : FnScope N_Power_left_over (f_Power_left_over.ps.map st) (defScope s_Power_left_over) := ⟨rfl, rfl, rfl, by decide +kernel, rfl, by decide +kernel, by decide +kernel⟩
theorem y_Power_left_over : (ySs N_Power_left_over none (defScope s_Power_left_over) f_Power_left_over.body (defBody s_Power_left_over)).isSome = true := by decide +kernel
abbrev s_Power_spend : Stmt := inClass (topS 17) 3
abbrev N_Power_spend : List PySem.Str := ["self"]
theorem sc_Power_spend : FnScope N_Power_spend (f_Power_spend.ps.map st) (defScope s_Power_spend) := ⟨rfl, rfl, rfl, by decide +kernel, rfl, by decide +kernel, by decide +kernel⟩
theorem y_Power_spend : (ySs N_Power_spend none (defScope s_Power_spend) f_Power_spend.body (defBody s_Power_spend)).isSome = true := by decide +kernel
abbrev s_Power_written : Stmt := inClass (topS 17) 2
abbrev N_Power_written : List PySem.Str := ["self"]
theorem sc_Power_written : FnScope N_Power_written (f_Power_written.ps.map st) (defScope s_Power_written) := ⟨rfl, rfl, rfl, by decide +kernel, rfl, by decide +kernel, by decide +kernel⟩
theorem y_Power_written : (ySs N_Power_written none (defScope s_Power_written) f_Power_written.body (defBody s_Power_written)).isSome = true := by decide +kernel
abbrev s_Dark_ini : Stmt := inClass (topS 5) 0
theorem i_Dark : ini1 (st "many") s_Dark_ini := ⟨_, _, _, _, _, _, _, _, _, _, _, _, rfl, rfl, ⟨rfl, rfl, rfl, by decide +kernel, rfl, by decide +kernel, by decide +kernel⟩, rfl, by decide, by decide⟩
abbrev s_NoDisk_ini : Stmt := inClass (topS 3) 0
theorem i_NoDisk : ini1 (st "found") s_NoDisk_ini := ⟨_, _, _, _, _, _, _, _, _, _, _, _, rfl, rfl, ⟨rfl, rfl, rfl, by decide +kernel, rfl, by decide +kernel, by decide +kernel⟩, rfl, by decide, by decide⟩
abbrev s_NoNumber_ini : Stmt := inClass (topS 2) 0
theorem i_NoNumber : ini1 (st "found") s_NoNumber_ini := ⟨_, _, _, _, _, _, _, _, _, _, _, _, rfl, rfl, ⟨rfl, rfl, rfl, by decide +kernel, rfl, by decide +kernel, by decide +kernel⟩, rfl, by decide, by decide⟩
abbrev s_NoPage_ini : Stmt := inClass (topS 4) 0
theorem i_NoPage : ini1 (st "found") s_NoPage_ini := ⟨_, _, _, _, _, _, _, _, _, _, _, _, rfl, rfl, ⟨rfl, rfl, rfl, by decide +kernel, rfl, by decide +kernel, by decide +kernel⟩, rfl, by decide, by decide⟩
theorem all_mk {l : PySem.W.OpenLaw} {w : World} {K : PySem.W.Frag} {h : Heap} {mg : PySem.Str → Option Value} {C_Dark C_Disk C_LoreError C_NoDisk C_NoNumber C_NoPage C_Power : Addr} {t_LEAST : Nat} {t_MOST_checks : Nat} {t_MOST_disks : Nat} {t_NUMBERS : Nat} (X : K.In h) (G : h.Ns mainGlobals mg)
    (b : ∀ x ∈ bnames, PySem.W.nsIn K mainGlobals (st x) = some none)
    (bve : PySem.W.nsIn K mainGlobals (st "ValueError") = some none)
    (c_LEAST : PySem.W.nsIn K mainGlobals (st "LEAST") = some (some (.int 4 t_LEAST)))
    (c_MOST_checks : PySem.W.nsIn K mainGlobals (st "MOST_checks") = some (some (.int 4294967295 t_MOST_checks)))
    (c_MOST_disks : PySem.W.nsIn K mainGlobals (st "MOST_disks") = some (some (.int 512 t_MOST_disks)))
    (c_NUMBERS : PySem.W.nsIn K mainGlobals (st "NUMBERS") = some (some (.int 20 t_NUMBERS)))
    (a_Dark : PySem.W.nsIn K mainGlobals (st "Dark") = some (some (.ref C_Dark)))
    (a_Disk : PySem.W.nsIn K mainGlobals (st "Disk") = some (some (.ref C_Disk)))
    (a_LoreError : PySem.W.nsIn K mainGlobals (st "LoreError") = some (some (.ref C_LoreError)))
    (a_NoDisk : PySem.W.nsIn K mainGlobals (st "NoDisk") = some (some (.ref C_NoDisk)))
    (a_NoNumber : PySem.W.nsIn K mainGlobals (st "NoNumber") = some (some (.ref C_NoNumber)))
    (a_NoPage : PySem.W.nsIn K mainGlobals (st "NoPage") = some (some (.ref C_NoPage)))
    (a_Power : PySem.W.nsIn K mainGlobals (st "Power") = some (some (.ref C_Power)))
    (k_Dark_Dark : PySem.W.kitOne K (.ref C_Dark) (.ref C_Dark) = some true)
    (k_Dark_LoreError : PySem.W.kitOne K (.ref C_Dark) (.ref C_LoreError) = some true)
    (k_Dark_NoDisk : PySem.W.kitOne K (.ref C_Dark) (.ref C_NoDisk) = some false)
    (k_Dark_NoNumber : PySem.W.kitOne K (.ref C_Dark) (.ref C_NoNumber) = some false)
    (k_Dark_NoPage : PySem.W.kitOne K (.ref C_Dark) (.ref C_NoPage) = some false)
    (k_Dark_bool : PySem.W.kitOne K (.ref C_Dark) (.type "bool") = some false)
    (k_Dark_int : PySem.W.kitOne K (.ref C_Dark) (.type "int") = some false)
    (k_Dark_list : PySem.W.kitOne K (.ref C_Dark) (.type "list") = some false)
    (k_Dark_tuple : PySem.W.kitOne K (.ref C_Dark) (.type "tuple") = some false)
    (k_Disk_Dark : PySem.W.kitOne K (.ref C_Disk) (.ref C_Dark) = some false)
    (k_Disk_LoreError : PySem.W.kitOne K (.ref C_Disk) (.ref C_LoreError) = some false)
    (k_Disk_NoDisk : PySem.W.kitOne K (.ref C_Disk) (.ref C_NoDisk) = some false)
    (k_Disk_NoNumber : PySem.W.kitOne K (.ref C_Disk) (.ref C_NoNumber) = some false)
    (k_Disk_NoPage : PySem.W.kitOne K (.ref C_Disk) (.ref C_NoPage) = some false)
    (k_Disk_bool : PySem.W.kitOne K (.ref C_Disk) (.type "bool") = some false)
    (k_Disk_int : PySem.W.kitOne K (.ref C_Disk) (.type "int") = some false)
    (k_Disk_list : PySem.W.kitOne K (.ref C_Disk) (.type "list") = some false)
    (k_Disk_tuple : PySem.W.kitOne K (.ref C_Disk) (.type "tuple") = some false)
    (k_LoreError_Dark : PySem.W.kitOne K (.ref C_LoreError) (.ref C_Dark) = some false)
    (k_LoreError_LoreError : PySem.W.kitOne K (.ref C_LoreError) (.ref C_LoreError) = some true)
    (k_LoreError_NoDisk : PySem.W.kitOne K (.ref C_LoreError) (.ref C_NoDisk) = some false)
    (k_LoreError_NoNumber : PySem.W.kitOne K (.ref C_LoreError) (.ref C_NoNumber) = some false)
    (k_LoreError_NoPage : PySem.W.kitOne K (.ref C_LoreError) (.ref C_NoPage) = some false)
    (k_LoreError_bool : PySem.W.kitOne K (.ref C_LoreError) (.type "bool") = some false)
    (k_LoreError_int : PySem.W.kitOne K (.ref C_LoreError) (.type "int") = some false)
    (k_LoreError_list : PySem.W.kitOne K (.ref C_LoreError) (.type "list") = some false)
    (k_LoreError_tuple : PySem.W.kitOne K (.ref C_LoreError) (.type "tuple") = some false)
    (k_NoDisk_Dark : PySem.W.kitOne K (.ref C_NoDisk) (.ref C_Dark) = some false)
    (k_NoDisk_LoreError : PySem.W.kitOne K (.ref C_NoDisk) (.ref C_LoreError) = some true)
    (k_NoDisk_NoDisk : PySem.W.kitOne K (.ref C_NoDisk) (.ref C_NoDisk) = some true)
    (k_NoDisk_NoNumber : PySem.W.kitOne K (.ref C_NoDisk) (.ref C_NoNumber) = some false)
    (k_NoDisk_NoPage : PySem.W.kitOne K (.ref C_NoDisk) (.ref C_NoPage) = some false)
    (k_NoDisk_bool : PySem.W.kitOne K (.ref C_NoDisk) (.type "bool") = some false)
    (k_NoDisk_int : PySem.W.kitOne K (.ref C_NoDisk) (.type "int") = some false)
    (k_NoDisk_list : PySem.W.kitOne K (.ref C_NoDisk) (.type "list") = some false)
    (k_NoDisk_tuple : PySem.W.kitOne K (.ref C_NoDisk) (.type "tuple") = some false)
    (k_NoNumber_Dark : PySem.W.kitOne K (.ref C_NoNumber) (.ref C_Dark) = some false)
    (k_NoNumber_LoreError : PySem.W.kitOne K (.ref C_NoNumber) (.ref C_LoreError) = some true)
    (k_NoNumber_NoDisk : PySem.W.kitOne K (.ref C_NoNumber) (.ref C_NoDisk) = some false)
    (k_NoNumber_NoNumber : PySem.W.kitOne K (.ref C_NoNumber) (.ref C_NoNumber) = some true)
    (k_NoNumber_NoPage : PySem.W.kitOne K (.ref C_NoNumber) (.ref C_NoPage) = some false)
    (k_NoNumber_bool : PySem.W.kitOne K (.ref C_NoNumber) (.type "bool") = some false)
    (k_NoNumber_int : PySem.W.kitOne K (.ref C_NoNumber) (.type "int") = some false)
    (k_NoNumber_list : PySem.W.kitOne K (.ref C_NoNumber) (.type "list") = some false)
    (k_NoNumber_tuple : PySem.W.kitOne K (.ref C_NoNumber) (.type "tuple") = some false)
    (k_NoPage_Dark : PySem.W.kitOne K (.ref C_NoPage) (.ref C_Dark) = some false)
    (k_NoPage_LoreError : PySem.W.kitOne K (.ref C_NoPage) (.ref C_LoreError) = some true)
    (k_NoPage_NoDisk : PySem.W.kitOne K (.ref C_NoPage) (.ref C_NoDisk) = some false)
    (k_NoPage_NoNumber : PySem.W.kitOne K (.ref C_NoPage) (.ref C_NoNumber) = some false)
    (k_NoPage_NoPage : PySem.W.kitOne K (.ref C_NoPage) (.ref C_NoPage) = some true)
    (k_NoPage_bool : PySem.W.kitOne K (.ref C_NoPage) (.type "bool") = some false)
    (k_NoPage_int : PySem.W.kitOne K (.ref C_NoPage) (.type "int") = some false)
    (k_NoPage_list : PySem.W.kitOne K (.ref C_NoPage) (.type "list") = some false)
    (k_NoPage_tuple : PySem.W.kitOne K (.ref C_NoPage) (.type "tuple") = some false)
    (k_Power_Dark : PySem.W.kitOne K (.ref C_Power) (.ref C_Dark) = some false)
    (k_Power_LoreError : PySem.W.kitOne K (.ref C_Power) (.ref C_LoreError) = some false)
    (k_Power_NoDisk : PySem.W.kitOne K (.ref C_Power) (.ref C_NoDisk) = some false)
    (k_Power_NoNumber : PySem.W.kitOne K (.ref C_Power) (.ref C_NoNumber) = some false)
    (k_Power_NoPage : PySem.W.kitOne K (.ref C_Power) (.ref C_NoPage) = some false)
    (k_Power_bool : PySem.W.kitOne K (.ref C_Power) (.type "bool") = some false)
    (k_Power_int : PySem.W.kitOne K (.ref C_Power) (.type "int") = some false)
    (k_Power_list : PySem.W.kitOne K (.ref C_Power) (.type "list") = some false)
    (k_Power_tuple : PySem.W.kitOne K (.ref C_Power) (.type "tuple") = some false)
    (kb_NoneType_Dark : PySem.W.kitOne K (.type "NoneType") (.ref C_Dark) = some false)
    (kb_NoneType_LoreError : PySem.W.kitOne K (.type "NoneType") (.ref C_LoreError) = some false)
    (kb_NoneType_NoDisk : PySem.W.kitOne K (.type "NoneType") (.ref C_NoDisk) = some false)
    (kb_NoneType_NoNumber : PySem.W.kitOne K (.type "NoneType") (.ref C_NoNumber) = some false)
    (kb_NoneType_NoPage : PySem.W.kitOne K (.type "NoneType") (.ref C_NoPage) = some false)
    (kb_bool_Dark : PySem.W.kitOne K (.type "bool") (.ref C_Dark) = some false)
    (kb_bool_LoreError : PySem.W.kitOne K (.type "bool") (.ref C_LoreError) = some false)
    (kb_bool_NoDisk : PySem.W.kitOne K (.type "bool") (.ref C_NoDisk) = some false)
    (kb_bool_NoNumber : PySem.W.kitOne K (.type "bool") (.ref C_NoNumber) = some false)
    (kb_bool_NoPage : PySem.W.kitOne K (.type "bool") (.ref C_NoPage) = some false)
    (kb_int_Dark : PySem.W.kitOne K (.type "int") (.ref C_Dark) = some false)
    (kb_int_LoreError : PySem.W.kitOne K (.type "int") (.ref C_LoreError) = some false)
    (kb_int_NoDisk : PySem.W.kitOne K (.type "int") (.ref C_NoDisk) = some false)
    (kb_int_NoNumber : PySem.W.kitOne K (.type "int") (.ref C_NoNumber) = some false)
    (kb_int_NoPage : PySem.W.kitOne K (.type "int") (.ref C_NoPage) = some false)
    (kb_str_Dark : PySem.W.kitOne K (.type "str") (.ref C_Dark) = some false)
    (kb_str_LoreError : PySem.W.kitOne K (.type "str") (.ref C_LoreError) = some false)
    (kb_str_NoDisk : PySem.W.kitOne K (.type "str") (.ref C_NoDisk) = some false)
    (kb_str_NoNumber : PySem.W.kitOne K (.type "str") (.ref C_NoNumber) = some false)
    (kb_str_NoPage : PySem.W.kitOne K (.type "str") (.ref C_NoPage) = some false)
    (kb_list_Dark : PySem.W.kitOne K (.type "list") (.ref C_Dark) = some false)
    (kb_list_LoreError : PySem.W.kitOne K (.type "list") (.ref C_LoreError) = some false)
    (kb_list_NoDisk : PySem.W.kitOne K (.type "list") (.ref C_NoDisk) = some false)
    (kb_list_NoNumber : PySem.W.kitOne K (.type "list") (.ref C_NoNumber) = some false)
    (kb_list_NoPage : PySem.W.kitOne K (.type "list") (.ref C_NoPage) = some false)
    (kb_tuple_Dark : PySem.W.kitOne K (.type "tuple") (.ref C_Dark) = some false)
    (kb_tuple_LoreError : PySem.W.kitOne K (.type "tuple") (.ref C_LoreError) = some false)
    (kb_tuple_NoDisk : PySem.W.kitOne K (.type "tuple") (.ref C_NoDisk) = some false)
    (kb_tuple_NoNumber : PySem.W.kitOne K (.type "tuple") (.ref C_NoNumber) = some false)
    (kb_tuple_NoPage : PySem.W.kitOne K (.type "tuple") (.ref C_NoPage) = some false)
    (kb_dict_Dark : PySem.W.kitOne K (.type "dict") (.ref C_Dark) = some false)
    (kb_dict_LoreError : PySem.W.kitOne K (.type "dict") (.ref C_LoreError) = some false)
    (kb_dict_NoDisk : PySem.W.kitOne K (.type "dict") (.ref C_NoDisk) = some false)
    (kb_dict_NoNumber : PySem.W.kitOne K (.type "dict") (.ref C_NoNumber) = some false)
    (kb_dict_NoPage : PySem.W.kitOne K (.type "dict") (.ref C_NoPage) = some false)
    (x_Dark_Dark : PySem.W.exmOne K (.ref C_Dark) (.ref C_Dark) = some true)
    (x_Dark_LoreError : PySem.W.exmOne K (.ref C_Dark) (.ref C_LoreError) = some true)
    (x_Dark_NoDisk : PySem.W.exmOne K (.ref C_Dark) (.ref C_NoDisk) = some false)
    (x_Dark_NoNumber : PySem.W.exmOne K (.ref C_Dark) (.ref C_NoNumber) = some false)
    (x_Dark_NoPage : PySem.W.exmOne K (.ref C_Dark) (.ref C_NoPage) = some false)
    (x_NoDisk_Dark : PySem.W.exmOne K (.ref C_NoDisk) (.ref C_Dark) = some false)
    (x_NoDisk_LoreError : PySem.W.exmOne K (.ref C_NoDisk) (.ref C_LoreError) = some true)
    (x_NoDisk_NoDisk : PySem.W.exmOne K (.ref C_NoDisk) (.ref C_NoDisk) = some true)
    (x_NoDisk_NoNumber : PySem.W.exmOne K (.ref C_NoDisk) (.ref C_NoNumber) = some false)
    (x_NoDisk_NoPage : PySem.W.exmOne K (.ref C_NoDisk) (.ref C_NoPage) = some false)
    (x_NoNumber_Dark : PySem.W.exmOne K (.ref C_NoNumber) (.ref C_Dark) = some false)
    (x_NoNumber_LoreError : PySem.W.exmOne K (.ref C_NoNumber) (.ref C_LoreError) = some true)
    (x_NoNumber_NoDisk : PySem.W.exmOne K (.ref C_NoNumber) (.ref C_NoDisk) = some false)
    (x_NoNumber_NoNumber : PySem.W.exmOne K (.ref C_NoNumber) (.ref C_NoNumber) = some true)
    (x_NoNumber_NoPage : PySem.W.exmOne K (.ref C_NoNumber) (.ref C_NoPage) = some false)
    (x_NoPage_Dark : PySem.W.exmOne K (.ref C_NoPage) (.ref C_Dark) = some false)
    (x_NoPage_LoreError : PySem.W.exmOne K (.ref C_NoPage) (.ref C_LoreError) = some true)
    (x_NoPage_NoDisk : PySem.W.exmOne K (.ref C_NoPage) (.ref C_NoDisk) = some false)
    (x_NoPage_NoNumber : PySem.W.exmOne K (.ref C_NoPage) (.ref C_NoNumber) = some false)
    (x_NoPage_NoPage : PySem.W.exmOne K (.ref C_NoPage) (.ref C_NoPage) = some true)
    (e_Dark : ∀ base, ErrZ l.prog w K mg base ["many"] C_Dark)
    (e_NoDisk : ∀ base, ErrZ l.prog w K mg base ["found"] C_NoDisk)
    (e_NoNumber : ∀ base, ErrZ l.prog w K mg base ["found"] C_NoNumber)
    (e_NoPage : ∀ base, ErrZ l.prog w K mg base ["found"] C_NoPage)
    (d__law_asked : ∃ f fd q s0, mg (st "_law_asked") = some (.ref f) ∧ PySem.W.keepIn K (.ref f) = true ∧ DefT K (st "_law_asked") q s0 f__law_asked f fd)
    (d__law_box : ∃ f fd q s0, mg (st "_law_box") = some (.ref f) ∧ PySem.W.keepIn K (.ref f) = true ∧ DefT K (st "_law_box") q s0 f__law_box f fd)
    (d__law_case : ∃ f fd q s0, mg (st "_law_case") = some (.ref f) ∧ PySem.W.keepIn K (.ref f) = true ∧ DefT K (st "_law_case") q s0 f__law_case f fd)
    (d__law_cell_at : ∃ f fd q s0, mg (st "_law_cell_at") = some (.ref f) ∧ PySem.W.keepIn K (.ref f) = true ∧ DefT K (st "_law_cell_at") q s0 f__law_cell_at f fd)
    (d__law_due : ∃ f fd q s0, mg (st "_law_due") = some (.ref f) ∧ PySem.W.keepIn K (.ref f) = true ∧ DefT K (st "_law_due") q s0 f__law_due f fd)
    (d__law_no_page : ∃ f fd q s0, mg (st "_law_no_page") = some (.ref f) ∧ PySem.W.keepIn K (.ref f) = true ∧ DefT K (st "_law_no_page") q s0 f__law_no_page f fd)
    (d__law_refused : ∃ f fd q s0, mg (st "_law_refused") = some (.ref f) ∧ PySem.W.keepIn K (.ref f) = true ∧ DefT K (st "_law_refused") q s0 f__law_refused f fd)
    (d__law_take : ∃ f fd q s0, mg (st "_law_take") = some (.ref f) ∧ PySem.W.keepIn K (.ref f) = true ∧ DefT K (st "_law_take") q s0 f__law_take f fd)
    (d__law_word : ∃ f fd q s0, mg (st "_law_word") = some (.ref f) ∧ PySem.W.keepIn K (.ref f) = true ∧ DefT K (st "_law_word") q s0 f__law_word f fd)
    (d_blank_page : ∃ f fd q s0, mg (st "blank_page") = some (.ref f) ∧ PySem.W.keepIn K (.ref f) = true ∧ DefT K (st "blank_page") q s0 f_blank_page f fd)
    (d_disk_of : ∃ f fd q s0, mg (st "disk_of") = some (.ref f) ∧ PySem.W.keepIn K (.ref f) = true ∧ DefT K (st "disk_of") q s0 f_disk_of f fd)
    (d_is_page : ∃ f fd q s0, mg (st "is_page") = some (.ref f) ∧ PySem.W.keepIn K (.ref f) = true ∧ DefT K (st "is_page") q s0 f_is_page f fd)
    (d_is_whole : ∃ f fd q s0, mg (st "is_whole") = some (.ref f) ∧ PySem.W.keepIn K (.ref f) = true ∧ DefT K (st "is_whole") q s0 f_is_whole f fd)
    (d_is_within : ∃ f fd q s0, mg (st "is_within") = some (.ref f) ∧ PySem.W.keepIn K (.ref f) = true ∧ DefT K (st "is_within") q s0 f_is_within f fd)
    (d_law : ∃ f fd q s0, mg (st "law") = some (.ref f) ∧ PySem.W.keepIn K (.ref f) = true ∧ DefT K (st "law") q s0 f_law f fd)
    (m_Disk_init : ∃ f fd q s0, Mk K C_Disk f ∧ DefT K (st "__init__") q s0 f_Disk_init f fd)
    (m_Disk_how_many : ∃ f fd q s0, Meth K C_Disk (st "how_many") f ∧ DefT K (st "how_many") q s0 f_Disk_how_many f fd)
    (m_Disk_need_number : ∃ f fd q s0, Meth K C_Disk (st "need_number") f ∧ DefT K (st "need_number") q s0 f_Disk_need_number f fd)
    (m_Disk_page_at : ∃ f fd q s0, Meth K C_Disk (st "page_at") f ∧ DefT K (st "page_at") q s0 f_Disk_page_at f fd)
    (m_Disk_pages : ∃ f fd q s0, Meth K C_Disk (st "pages") f ∧ DefT K (st "pages") q s0 f_Disk_pages f fd)
    (m_Disk_write : ∃ f fd q s0, Meth K C_Disk (st "write") f ∧ DefT K (st "write") q s0 f_Disk_write f fd)
    (m_Power_init : ∃ f fd q s0, Mk K C_Power f ∧ DefT K (st "__init__") q s0 f_Power_init f fd)
    (m_Power_left_over : ∃ f fd q s0, Meth K C_Power (st "left_over") f ∧ DefT K (st "left_over") q s0 f_Power_left_over f fd)
    (m_Power_spend : ∃ f fd q s0, Meth K C_Power (st "spend") f ∧ DefT K (st "spend") q s0 f_Power_spend f fd)
    (m_Power_written : ∃ f fd q s0, Meth K C_Power (st "written") f ∧ DefT K (st "written") q s0 f_Power_written f fd)
    (o_Disk : Cls K C_Disk ∧ PySem.W.findIn K (.ref C_Disk) "__class__" = some (some (.builtin "object.__class__")) ∧ PySem.W.specialIn K (.builtin "object.__class__") "__get__" = some (some (.builtin "getset_descriptor.__get__")) ∧ PySem.W.takesIn K (.builtin "object.__class__") = some true ∧ PySem.W.mroIn K C_Disk (.type "object") = some true)
    (n_Disk_sheets : NoAttr K C_Disk (st "sheets"))
    (o_Power : Cls K C_Power ∧ PySem.W.findIn K (.ref C_Power) "__class__" = some (some (.builtin "object.__class__")) ∧ PySem.W.specialIn K (.builtin "object.__class__") "__get__" = some (some (.builtin "getset_descriptor.__get__")) ∧ PySem.W.takesIn K (.builtin "object.__class__") = some true ∧ PySem.W.mroIn K C_Power (.type "object") = some true)
    (n_Power_limit : NoAttr K C_Power (st "limit"))
    (n_Power_spent : NoAttr K C_Power (st "spent")) :
    ∃ M : Ad, M.K = K ∧ ∀ base : Heap, Stat pg M l.prog w mg base := by
  refine ⟨(⟨K, fun c => ([("Dark", C_Dark), ("Disk", C_Disk), ("LoreError", C_LoreError), ("NoDisk", C_NoDisk), ("NoNumber", C_NoNumber), ("NoPage", C_NoPage), ("Power", C_Power)] : List (String × Addr)).lookup c, fun x => match mg (st x) with | some (.ref f) => some f | _ => none, fun c => obL.contains c⟩ : Ad), rfl, ?_⟩
  intro base
  have gl : ∀ C Ca, ([("Dark", C_Dark), ("Disk", C_Disk), ("LoreError", C_LoreError), ("NoDisk", C_NoDisk), ("NoNumber", C_NoNumber), ("NoPage", C_NoPage), ("Power", C_Power)] : List (String × Addr)).lookup C = some Ca → mg (st C) = some (.ref Ca) := fun C Ca e => lk_all (P := fun C Ca => mg (st C) = some (.ref Ca)) (by simp only [List.forall_mem_cons, List.not_mem_nil, false_implies, implies_true, and_true]; exact ⟨PySem.W.mg_of X G a_Dark, PySem.W.mg_of X G a_Disk, PySem.W.mg_of X G a_LoreError, PySem.W.mg_of X G a_NoDisk, PySem.W.mg_of X G a_NoNumber, PySem.W.mg_of X G a_NoPage, PySem.W.mg_of X G a_Power⟩) e
  have fd : ∀ x fn, pg.d x = some fn → ∃ f fd q s0, mg (st x) = some (.ref f) ∧ PySem.W.keepIn K (.ref f) = true ∧ DefT K (st x) q s0 fn f fd := by
    intro x fn e
    exact lk_all (P := fun x fn => ∃ f fd q s0, mg (st x) = some (.ref f) ∧ PySem.W.keepIn K (.ref f) = true ∧ DefT K (st x) q s0 fn f fd) (by simp only [tabD, List.forall_mem_cons, List.not_mem_nil, false_implies, implies_true, and_true]; exact ⟨d__law_asked, d__law_box, d__law_case, d__law_cell_at, d__law_due, d__law_no_page, d__law_refused, d__law_take, d__law_word, d_blank_page, d_disk_of, d_is_page, d_is_whole, d_is_within, d_law⟩) e
  refine ⟨fun x hx => PySem.W.mg_none_of X G (b x hx), ?_, ?_, PySem.W.mg_none_of X G bve, ?_, gl, ?_, ?_, ?_, ?_, fd, ?_, ?_, ?_, ?_, ?_⟩
  · intro c e
    simp only [pg, cnL, List.contains_iff_mem, List.mem_cons, List.not_mem_nil, or_false] at e
    rcases e with rfl | rfl | rfl | rfl | rfl | rfl | rfl | rfl | rfl
    · exact rfl
    · exact rfl
    · exact rfl
    · exact rfl
    · exact rfl
    · exact rfl
    · exact rfl
    · exact rfl
    · exact rfl
  · exact (by decide +kernel : ∀ x ∈ bkinds, obL.contains x = false)
  · intro x v e
    exact lk_all (P := fun x v => ∃ u v', mg (st x) = some u ∧ RelV v' u ∧ ∀ ρ H, VR _ ρ H v v') (by simp only [tabC, List.forall_mem_cons, List.not_mem_nil, false_implies, implies_true, and_true]; exact ⟨⟨_, .int 4, PySem.W.mg_of X G c_LEAST, ⟨_, rfl⟩, fun _ _ => .int _⟩, ⟨_, .int 4294967295, PySem.W.mg_of X G c_MOST_checks, ⟨_, rfl⟩, fun _ _ => .int _⟩, ⟨_, .int 512, PySem.W.mg_of X G c_MOST_disks, ⟨_, rfl⟩, fun _ _ => .int _⟩, ⟨_, .int 20, PySem.W.mg_of X G c_NUMBERS, ⟨_, rfl⟩, fun _ _ => .int _⟩⟩) e
  · intro C Ca o e
    simp only [obL, List.contains_iff_mem, List.mem_cons, List.not_mem_nil, or_false] at o
    rcases o with rfl | rfl
    · (cases e; exact o_Disk)
    · (cases e; exact o_Power)
  · intro C Ca f e hf
    refine lk_all (P := fun C Ca => ∀ f, (pg.fl C).contains f = true → NoAttr K Ca (st f)) ?_ e f hf
    simp only [List.forall_mem_cons, List.not_mem_nil, false_implies, implies_true, and_true]
    refine ⟨?_, ?_, ?_, ?_, ?_, ?_, ?_⟩
    · exact fun f hf => by
          have hf : ([] : List String).contains f = true := hf
          cases hf
    · exact fun f hf => by
          have hf : (["sheets"] : List String).contains f = true := hf
          simp only [List.contains_iff_mem, List.mem_cons, List.not_mem_nil, or_false] at hf
          obtain rfl := hf
          assumption
    · exact fun f hf => by
          have hf : ([] : List String).contains f = true := hf
          cases hf
    · exact fun f hf => by
          have hf : ([] : List String).contains f = true := hf
          cases hf
    · exact fun f hf => by
          have hf : ([] : List String).contains f = true := hf
          cases hf
    · exact fun f hf => by
          have hf : ([] : List String).contains f = true := hf
          cases hf
    · exact fun f hf => by
          have hf : (["limit", "spent"] : List String).contains f = true := hf
          simp only [List.contains_iff_mem, List.mem_cons, List.not_mem_nil, or_false] at hf
          rcases hf with rfl | rfl <;> assumption
  · intro C Ca c v u hn e ev
    simp only [pg, cnL, List.contains_iff_mem, List.mem_cons, List.not_mem_nil, or_false] at hn
    refine lk_all (P := fun C Ca => PySem.W.kitOne K (.ref Ca) u = some (isB pg C c)) ?_ e
    simp only [List.forall_mem_cons, List.not_mem_nil, false_implies, implies_true, and_true]
    rcases hn with rfl | rfl | rfl | rfl | rfl | rfl | rfl | rfl | rfl
    · (cases ev; exact ⟨k_Dark_Dark, k_Disk_Dark, k_LoreError_Dark, k_NoDisk_Dark, k_NoNumber_Dark, k_NoPage_Dark, k_Power_Dark⟩)
    · (cases ev; exact ⟨k_Dark_LoreError, k_Disk_LoreError, k_LoreError_LoreError, k_NoDisk_LoreError, k_NoNumber_LoreError, k_NoPage_LoreError, k_Power_LoreError⟩)
    · (cases ev; exact ⟨k_Dark_NoDisk, k_Disk_NoDisk, k_LoreError_NoDisk, k_NoDisk_NoDisk, k_NoNumber_NoDisk, k_NoPage_NoDisk, k_Power_NoDisk⟩)
    · (cases ev; exact ⟨k_Dark_NoNumber, k_Disk_NoNumber, k_LoreError_NoNumber, k_NoDisk_NoNumber, k_NoNumber_NoNumber, k_NoPage_NoNumber, k_Power_NoNumber⟩)
    · (cases ev; exact ⟨k_Dark_NoPage, k_Disk_NoPage, k_LoreError_NoPage, k_NoDisk_NoPage, k_NoNumber_NoPage, k_NoPage_NoPage, k_Power_NoPage⟩)
    · (cases ev; exact ⟨k_Dark_bool, k_Disk_bool, k_LoreError_bool, k_NoDisk_bool, k_NoNumber_bool, k_NoPage_bool, k_Power_bool⟩)
    · (cases ev; exact ⟨k_Dark_int, k_Disk_int, k_LoreError_int, k_NoDisk_int, k_NoNumber_int, k_NoPage_int, k_Power_int⟩)
    · (cases ev; exact ⟨k_Dark_list, k_Disk_list, k_LoreError_list, k_NoDisk_list, k_NoNumber_list, k_NoPage_list, k_Power_list⟩)
    · (cases ev; exact ⟨k_Dark_tuple, k_Disk_tuple, k_LoreError_tuple, k_NoDisk_tuple, k_NoNumber_tuple, k_NoPage_tuple, k_Power_tuple⟩)
  · intro t c v u hn ht ev
    simp only [pg, cnL, List.contains_iff_mem, List.mem_cons, List.not_mem_nil, or_false] at hn
    simp only [bkinds, List.mem_cons, List.not_mem_nil, or_false] at ht
    rcases hn with rfl | rfl | rfl | rfl | rfl | rfl | rfl | rfl | rfl
    · (cases ev; rcases ht with rfl | rfl | rfl | rfl | rfl | rfl | rfl <;> first | rfl | exact kit_ty (by decide) | assumption)
    · (cases ev; rcases ht with rfl | rfl | rfl | rfl | rfl | rfl | rfl <;> first | rfl | exact kit_ty (by decide) | assumption)
    · (cases ev; rcases ht with rfl | rfl | rfl | rfl | rfl | rfl | rfl <;> first | rfl | exact kit_ty (by decide) | assumption)
    · (cases ev; rcases ht with rfl | rfl | rfl | rfl | rfl | rfl | rfl <;> first | rfl | exact kit_ty (by decide) | assumption)
    · (cases ev; rcases ht with rfl | rfl | rfl | rfl | rfl | rfl | rfl <;> first | rfl | exact kit_ty (by decide) | assumption)
    · (cases ev; rcases ht with rfl | rfl | rfl | rfl | rfl | rfl | rfl <;> first | rfl | exact kit_ty (by decide) | assumption)
    · (cases ev; rcases ht with rfl | rfl | rfl | rfl | rfl | rfl | rfl <;> first | rfl | exact kit_ty (by decide) | assumption)
    · (cases ev; rcases ht with rfl | rfl | rfl | rfl | rfl | rfl | rfl <;> first | rfl | exact kit_ty (by decide) | assumption)
    · (cases ev; rcases ht with rfl | rfl | rfl | rfl | rfl | rfl | rfl <;> first | rfl | exact kit_ty (by decide) | assumption)
  · intro C m fn Ca e hm hc
    exact lk_all (t := tabM) (P := fun (p : String × String) (fn : Fn) => p.2 ≠ "__init__" → ∀ Ca, ([("Dark", C_Dark), ("Disk", C_Disk), ("LoreError", C_LoreError), ("NoDisk", C_NoDisk), ("NoNumber", C_NoNumber), ("NoPage", C_NoPage), ("Power", C_Power)] : List (String × Addr)).lookup p.1 = some Ca → Cls K Ca ∧ ∃ f fd q s0, Meth K Ca (st p.2) f ∧ DefT K (st p.2) q s0 fn f fd) (by simp only [tabM, List.forall_mem_cons, List.not_mem_nil, false_implies, implies_true, and_true]; exact ⟨(fun h => absurd rfl h), (fun _ Ca e => by cases e; exact ⟨o_Disk.1, m_Disk_how_many⟩), (fun _ Ca e => by cases e; exact ⟨o_Disk.1, m_Disk_need_number⟩), (fun _ Ca e => by cases e; exact ⟨o_Disk.1, m_Disk_page_at⟩), (fun _ Ca e => by cases e; exact ⟨o_Disk.1, m_Disk_pages⟩), (fun _ Ca e => by cases e; exact ⟨o_Disk.1, m_Disk_write⟩), (fun h => absurd rfl h), (fun _ Ca e => by cases e; exact ⟨o_Power.1, m_Power_left_over⟩), (fun _ Ca e => by cases e; exact ⟨o_Power.1, m_Power_spend⟩), (fun _ Ca e => by cases e; exact ⟨o_Power.1, m_Power_written⟩)⟩) e hm Ca hc
  · intro C fn e
    exact lk_all (t := tabM) (P := fun (p : String × String) (fn : Fn) => p.2 = "__init__" → obL.contains p.1 = true ∧ ∃ Ca f fd q s0, ([("Dark", C_Dark), ("Disk", C_Disk), ("LoreError", C_LoreError), ("NoDisk", C_NoDisk), ("NoNumber", C_NoNumber), ("NoPage", C_NoPage), ("Power", C_Power)] : List (String × Addr)).lookup p.1 = some Ca ∧ Mk K Ca f ∧ DefT K (st "__init__") q s0 fn f fd) (by simp only [tabM, List.forall_mem_cons, List.not_mem_nil, false_implies, implies_true, and_true]; exact ⟨(fun _ => ⟨rfl, C_Disk, m_Disk_init.elim fun f z => z.elim fun fd z => z.elim fun q z => z.elim fun s0 z => ⟨f, fd, q, s0, rfl, z⟩⟩), (fun h => absurd h (by decide)), (fun h => absurd h (by decide)), (fun h => absurd h (by decide)), (fun h => absurd h (by decide)), (fun h => absurd h (by decide)), (fun _ => ⟨rfl, C_Power, m_Power_init.elim fun f z => z.elim fun fd z => z.elim fun q z => z.elim fun s0 z => ⟨f, fd, q, s0, rfl, z⟩⟩), (fun h => absurd h (by decide)), (fun h => absurd h (by decide)), (fun h => absurd h (by decide))⟩) e rfl
  · intro x fn e
    obtain ⟨f, _, _, _, h, _⟩ := fd x fn e
    refine ⟨f, ?_, h⟩
    show (match mg (st x) with | some (.ref f) => some f | _ => none) = some f
    rw [h]
  · intro x fl e
    exact lk_all (P := fun x fl => ∃ Ca, ([("Dark", C_Dark), ("Disk", C_Disk), ("LoreError", C_LoreError), ("NoDisk", C_NoDisk), ("NoNumber", C_NoNumber), ("NoPage", C_NoPage), ("Power", C_Power)] : List (String × Addr)).lookup x = some Ca ∧ ErrZ l.prog w K mg base fl Ca) (by simp only [tabE, List.forall_mem_cons, List.not_mem_nil, false_implies, implies_true, and_true]; exact ⟨⟨C_Dark, rfl, e_Dark base⟩, ⟨C_NoDisk, rfl, e_NoDisk base⟩, ⟨C_NoNumber, rfl, e_NoNumber base⟩, ⟨C_NoPage, rfl, e_NoPage base⟩⟩) e
  · intro c d Ca Da fl hn e ec ed
    simp only [pg, cnL, List.contains_iff_mem, List.mem_cons, List.not_mem_nil, or_false] at hn
    rcases hn with rfl | rfl | rfl | rfl | rfl | rfl | rfl | rfl | rfl
    · (cases ed; exact lk_all (t := tabE) (P := fun c _ => ∀ Ca, ([("Dark", C_Dark), ("Disk", C_Disk), ("LoreError", C_LoreError), ("NoDisk", C_NoDisk), ("NoNumber", C_NoNumber), ("NoPage", C_NoPage), ("Power", C_Power)] : List (String × Addr)).lookup c = some Ca → PySem.W.exmOne K (.ref Ca) (.ref C_Dark) = some ((pg.up c).contains "Dark")) (by simp only [tabE, List.forall_mem_cons, List.not_mem_nil, false_implies, implies_true, and_true]; exact ⟨fun _ e => by cases e; exact x_Dark_Dark, fun _ e => by cases e; exact x_NoDisk_Dark, fun _ e => by cases e; exact x_NoNumber_Dark, fun _ e => by cases e; exact x_NoPage_Dark⟩) e Ca ec)
    · (cases ed; exact lk_all (t := tabE) (P := fun c _ => ∀ Ca, ([("Dark", C_Dark), ("Disk", C_Disk), ("LoreError", C_LoreError), ("NoDisk", C_NoDisk), ("NoNumber", C_NoNumber), ("NoPage", C_NoPage), ("Power", C_Power)] : List (String × Addr)).lookup c = some Ca → PySem.W.exmOne K (.ref Ca) (.ref C_LoreError) = some ((pg.up c).contains "LoreError")) (by simp only [tabE, List.forall_mem_cons, List.not_mem_nil, false_implies, implies_true, and_true]; exact ⟨fun _ e => by cases e; exact x_Dark_LoreError, fun _ e => by cases e; exact x_NoDisk_LoreError, fun _ e => by cases e; exact x_NoNumber_LoreError, fun _ e => by cases e; exact x_NoPage_LoreError⟩) e Ca ec)
    · (cases ed; exact lk_all (t := tabE) (P := fun c _ => ∀ Ca, ([("Dark", C_Dark), ("Disk", C_Disk), ("LoreError", C_LoreError), ("NoDisk", C_NoDisk), ("NoNumber", C_NoNumber), ("NoPage", C_NoPage), ("Power", C_Power)] : List (String × Addr)).lookup c = some Ca → PySem.W.exmOne K (.ref Ca) (.ref C_NoDisk) = some ((pg.up c).contains "NoDisk")) (by simp only [tabE, List.forall_mem_cons, List.not_mem_nil, false_implies, implies_true, and_true]; exact ⟨fun _ e => by cases e; exact x_Dark_NoDisk, fun _ e => by cases e; exact x_NoDisk_NoDisk, fun _ e => by cases e; exact x_NoNumber_NoDisk, fun _ e => by cases e; exact x_NoPage_NoDisk⟩) e Ca ec)
    · (cases ed; exact lk_all (t := tabE) (P := fun c _ => ∀ Ca, ([("Dark", C_Dark), ("Disk", C_Disk), ("LoreError", C_LoreError), ("NoDisk", C_NoDisk), ("NoNumber", C_NoNumber), ("NoPage", C_NoPage), ("Power", C_Power)] : List (String × Addr)).lookup c = some Ca → PySem.W.exmOne K (.ref Ca) (.ref C_NoNumber) = some ((pg.up c).contains "NoNumber")) (by simp only [tabE, List.forall_mem_cons, List.not_mem_nil, false_implies, implies_true, and_true]; exact ⟨fun _ e => by cases e; exact x_Dark_NoNumber, fun _ e => by cases e; exact x_NoDisk_NoNumber, fun _ e => by cases e; exact x_NoNumber_NoNumber, fun _ e => by cases e; exact x_NoPage_NoNumber⟩) e Ca ec)
    · (cases ed; exact lk_all (t := tabE) (P := fun c _ => ∀ Ca, ([("Dark", C_Dark), ("Disk", C_Disk), ("LoreError", C_LoreError), ("NoDisk", C_NoDisk), ("NoNumber", C_NoNumber), ("NoPage", C_NoPage), ("Power", C_Power)] : List (String × Addr)).lookup c = some Ca → PySem.W.exmOne K (.ref Ca) (.ref C_NoPage) = some ((pg.up c).contains "NoPage")) (by simp only [tabE, List.forall_mem_cons, List.not_mem_nil, false_implies, implies_true, and_true]; exact ⟨fun _ e => by cases e; exact x_Dark_NoPage, fun _ e => by cases e; exact x_NoDisk_NoPage, fun _ e => by cases e; exact x_NoNumber_NoPage, fun _ e => by cases e; exact x_NoPage_NoPage⟩) e Ca ec)
    · (cases ed)
    · (cases ed)
    · (cases ed)
    · (cases ed)
end My
open PySem PySem.W PyProof.Rows Z
set_option maxHeartbeats 0 in
theorem PySem.Challenge.cw_leastlore_k07_disks_refused_holds : PySem.Challenge.rw_leastlore_k07_disks_refused.Holds := by
  w_on; o_law; k_head; (case hw => w_witness2)
  k_fill
  refine Z.walk_ofZ (l := PySem.Challenge.rw_leastlore_k07_disks_refused) (n := 63) (k := 11) (pg := My.pg) (fn := My.f_law) rfl (by decide) rfl ⟨rfl, by decide, by decide⟩ (fun w h Y => PySem.W.kIn_of Y) rfl rfl rfl ?F (fun w => ?O) (by decide +kernel) (fun ns hl _ => My.law_ok (k := 0) ns hl)
  case O => rfl
  case F =>
    intro w mg h KX G
    refine' My.all_mk KX G ?b ?bve ?c_LEAST ?c_MOST_checks ?c_MOST_disks ?c_NUMBERS ?a_Dark ?a_Disk ?a_LoreError ?a_NoDisk ?a_NoNumber ?a_NoPage ?a_Power ?k_Dark_Dark ?k_Dark_LoreError ?k_Dark_NoDisk ?k_Dark_NoNumber ?k_Dark_NoPage ?k_Dark_bool ?k_Dark_int ?k_Dark_list ?k_Dark_tuple ?k_Disk_Dark ?k_Disk_LoreError ?k_Disk_NoDisk ?k_Disk_NoNumber ?k_Disk_NoPage ?k_Disk_bool ?k_Disk_int ?k_Disk_list ?k_Disk_tuple ?k_LoreError_Dark ?k_LoreError_LoreError ?k_LoreError_NoDisk ?k_LoreError_NoNumber ?k_LoreError_NoPage ?k_LoreError_bool ?k_LoreError_int ?k_LoreError_list ?k_LoreError_tuple ?k_NoDisk_Dark ?k_NoDisk_LoreError ?k_NoDisk_NoDisk ?k_NoDisk_NoNumber ?k_NoDisk_NoPage ?k_NoDisk_bool ?k_NoDisk_int ?k_NoDisk_list ?k_NoDisk_tuple ?k_NoNumber_Dark ?k_NoNumber_LoreError ?k_NoNumber_NoDisk ?k_NoNumber_NoNumber ?k_NoNumber_NoPage ?k_NoNumber_bool ?k_NoNumber_int ?k_NoNumber_list ?k_NoNumber_tuple ?k_NoPage_Dark ?k_NoPage_LoreError ?k_NoPage_NoDisk ?k_NoPage_NoNumber ?k_NoPage_NoPage ?k_NoPage_bool ?k_NoPage_int ?k_NoPage_list ?k_NoPage_tuple ?k_Power_Dark ?k_Power_LoreError ?k_Power_NoDisk ?k_Power_NoNumber ?k_Power_NoPage ?k_Power_bool ?k_Power_int ?k_Power_list ?k_Power_tuple ?kb_NoneType_Dark ?kb_NoneType_LoreError ?kb_NoneType_NoDisk ?kb_NoneType_NoNumber ?kb_NoneType_NoPage ?kb_bool_Dark ?kb_bool_LoreError ?kb_bool_NoDisk ?kb_bool_NoNumber ?kb_bool_NoPage ?kb_int_Dark ?kb_int_LoreError ?kb_int_NoDisk ?kb_int_NoNumber ?kb_int_NoPage ?kb_str_Dark ?kb_str_LoreError ?kb_str_NoDisk ?kb_str_NoNumber ?kb_str_NoPage ?kb_list_Dark ?kb_list_LoreError ?kb_list_NoDisk ?kb_list_NoNumber ?kb_list_NoPage ?kb_tuple_Dark ?kb_tuple_LoreError ?kb_tuple_NoDisk ?kb_tuple_NoNumber ?kb_tuple_NoPage ?kb_dict_Dark ?kb_dict_LoreError ?kb_dict_NoDisk ?kb_dict_NoNumber ?kb_dict_NoPage ?x_Dark_Dark ?x_Dark_LoreError ?x_Dark_NoDisk ?x_Dark_NoNumber ?x_Dark_NoPage ?x_NoDisk_Dark ?x_NoDisk_LoreError ?x_NoDisk_NoDisk ?x_NoDisk_NoNumber ?x_NoDisk_NoPage ?x_NoNumber_Dark ?x_NoNumber_LoreError ?x_NoNumber_NoDisk ?x_NoNumber_NoNumber ?x_NoNumber_NoPage ?x_NoPage_Dark ?x_NoPage_LoreError ?x_NoPage_NoDisk ?x_NoPage_NoNumber ?x_NoPage_NoPage ?e_Dark ?e_NoDisk ?e_NoNumber ?e_NoPage ?d__law_asked ?d__law_box ?d__law_case ?d__law_cell_at ?d__law_due ?d__law_no_page ?d__law_refused ?d__law_take ?d__law_word ?d_blank_page ?d_disk_of ?d_is_page ?d_is_whole ?d_is_within ?d_law ?m_Disk_init ?m_Disk_how_many ?m_Disk_need_number ?m_Disk_page_at ?m_Disk_pages ?m_Disk_write ?m_Power_init ?m_Power_left_over ?m_Power_spend ?m_Power_written ?o_Disk ?n_Disk_sheets ?o_Power ?n_Power_limit ?n_Power_spent
    (case b => (intro x hx; simp only [bnames, List.mem_cons, List.not_mem_nil, or_false] at hx; rcases hx with rfl | rfl | rfl | rfl | rfl | rfl | rfl | rfl | rfl | rfl | rfl | rfl | rfl | rfl | rfl | rfl | rfl | rfl | rfl | rfl | rfl <;> k_is))
    (case bve => k_is)
    (case c_LEAST => k_is)
    (case c_MOST_checks => k_is)
    (case c_MOST_disks => k_is)
    (case c_NUMBERS => k_is)
    (case a_Dark => k_is)
    (case a_Disk => k_is)
    (case a_LoreError => k_is)
    (case a_NoDisk => k_is)
    (case a_NoNumber => k_is)
    (case a_NoPage => k_is)
    (case a_Power => k_is)
    (case k_Dark_Dark => (first | k_is | rfl))
    (case k_Dark_LoreError => (first | k_is | rfl))
    (case k_Dark_NoDisk => (first | k_is | rfl))
    (case k_Dark_NoNumber => (first | k_is | rfl))
    (case k_Dark_NoPage => (first | k_is | rfl))
    (case k_Dark_bool => (first | k_is | rfl))
    (case k_Dark_int => (first | k_is | rfl))
    (case k_Dark_list => (first | k_is | rfl))
    (case k_Dark_tuple => (first | k_is | rfl))
    (case k_Disk_Dark => (first | k_is | rfl))
    (case k_Disk_LoreError => (first | k_is | rfl))
    (case k_Disk_NoDisk => (first | k_is | rfl))
    (case k_Disk_NoNumber => (first | k_is | rfl))
    (case k_Disk_NoPage => (first | k_is | rfl))
    (case k_Disk_bool => (first | k_is | rfl))
    (case k_Disk_int => (first | k_is | rfl))
    (case k_Disk_list => (first | k_is | rfl))
    (case k_Disk_tuple => (first | k_is | rfl))
    (case k_LoreError_Dark => (first | k_is | rfl))
    (case k_LoreError_LoreError => (first | k_is | rfl))
    (case k_LoreError_NoDisk => (first | k_is | rfl))
    (case k_LoreError_NoNumber => (first | k_is | rfl))
    (case k_LoreError_NoPage => (first | k_is | rfl))
    (case k_LoreError_bool => (first | k_is | rfl))
    (case k_LoreError_int => (first | k_is | rfl))
    (case k_LoreError_list => (first | k_is | rfl))
    (case k_LoreError_tuple => (first | k_is | rfl))
    (case k_NoDisk_Dark => (first | k_is | rfl))
    (case k_NoDisk_LoreError => (first | k_is | rfl))
    (case k_NoDisk_NoDisk => (first | k_is | rfl))
    (case k_NoDisk_NoNumber => (first | k_is | rfl))
    (case k_NoDisk_NoPage => (first | k_is | rfl))
    (case k_NoDisk_bool => (first | k_is | rfl))
    (case k_NoDisk_int => (first | k_is | rfl))
    (case k_NoDisk_list => (first | k_is | rfl))
    (case k_NoDisk_tuple => (first | k_is | rfl))
    (case k_NoNumber_Dark => (first | k_is | rfl))
    (case k_NoNumber_LoreError => (first | k_is | rfl))
    (case k_NoNumber_NoDisk => (first | k_is | rfl))
    (case k_NoNumber_NoNumber => (first | k_is | rfl))
    (case k_NoNumber_NoPage => (first | k_is | rfl))
    (case k_NoNumber_bool => (first | k_is | rfl))
    (case k_NoNumber_int => (first | k_is | rfl))
    (case k_NoNumber_list => (first | k_is | rfl))
    (case k_NoNumber_tuple => (first | k_is | rfl))
    (case k_NoPage_Dark => (first | k_is | rfl))
    (case k_NoPage_LoreError => (first | k_is | rfl))
    (case k_NoPage_NoDisk => (first | k_is | rfl))
    (case k_NoPage_NoNumber => (first | k_is | rfl))
    (case k_NoPage_NoPage => (first | k_is | rfl))
    (case k_NoPage_bool => (first | k_is | rfl))
    (case k_NoPage_int => (first | k_is | rfl))
    (case k_NoPage_list => (first | k_is | rfl))
    (case k_NoPage_tuple => (first | k_is | rfl))
    (case k_Power_Dark => (first | k_is | rfl))
    (case k_Power_LoreError => (first | k_is | rfl))
    (case k_Power_NoDisk => (first | k_is | rfl))
    (case k_Power_NoNumber => (first | k_is | rfl))
    (case k_Power_NoPage => (first | k_is | rfl))
    (case k_Power_bool => (first | k_is | rfl))
    (case k_Power_int => (first | k_is | rfl))
    (case k_Power_list => (first | k_is | rfl))
    (case k_Power_tuple => (first | k_is | rfl))
    (case kb_NoneType_Dark => (first | k_is | rfl))
    (case kb_NoneType_LoreError => (first | k_is | rfl))
    (case kb_NoneType_NoDisk => (first | k_is | rfl))
    (case kb_NoneType_NoNumber => (first | k_is | rfl))
    (case kb_NoneType_NoPage => (first | k_is | rfl))
    (case kb_bool_Dark => (first | k_is | rfl))
    (case kb_bool_LoreError => (first | k_is | rfl))
    (case kb_bool_NoDisk => (first | k_is | rfl))
    (case kb_bool_NoNumber => (first | k_is | rfl))
    (case kb_bool_NoPage => (first | k_is | rfl))
    (case kb_int_Dark => (first | k_is | rfl))
    (case kb_int_LoreError => (first | k_is | rfl))
    (case kb_int_NoDisk => (first | k_is | rfl))
    (case kb_int_NoNumber => (first | k_is | rfl))
    (case kb_int_NoPage => (first | k_is | rfl))
    (case kb_str_Dark => (first | k_is | rfl))
    (case kb_str_LoreError => (first | k_is | rfl))
    (case kb_str_NoDisk => (first | k_is | rfl))
    (case kb_str_NoNumber => (first | k_is | rfl))
    (case kb_str_NoPage => (first | k_is | rfl))
    (case kb_list_Dark => (first | k_is | rfl))
    (case kb_list_LoreError => (first | k_is | rfl))
    (case kb_list_NoDisk => (first | k_is | rfl))
    (case kb_list_NoNumber => (first | k_is | rfl))
    (case kb_list_NoPage => (first | k_is | rfl))
    (case kb_tuple_Dark => (first | k_is | rfl))
    (case kb_tuple_LoreError => (first | k_is | rfl))
    (case kb_tuple_NoDisk => (first | k_is | rfl))
    (case kb_tuple_NoNumber => (first | k_is | rfl))
    (case kb_tuple_NoPage => (first | k_is | rfl))
    (case kb_dict_Dark => (first | k_is | rfl))
    (case kb_dict_LoreError => (first | k_is | rfl))
    (case kb_dict_NoDisk => (first | k_is | rfl))
    (case kb_dict_NoNumber => (first | k_is | rfl))
    (case kb_dict_NoPage => (first | k_is | rfl))
    (case x_Dark_Dark => (first | k_is | rfl))
    (case x_Dark_LoreError => (first | k_is | rfl))
    (case x_Dark_NoDisk => (first | k_is | rfl))
    (case x_Dark_NoNumber => (first | k_is | rfl))
    (case x_Dark_NoPage => (first | k_is | rfl))
    (case x_NoDisk_Dark => (first | k_is | rfl))
    (case x_NoDisk_LoreError => (first | k_is | rfl))
    (case x_NoDisk_NoDisk => (first | k_is | rfl))
    (case x_NoDisk_NoNumber => (first | k_is | rfl))
    (case x_NoDisk_NoPage => (first | k_is | rfl))
    (case x_NoNumber_Dark => (first | k_is | rfl))
    (case x_NoNumber_LoreError => (first | k_is | rfl))
    (case x_NoNumber_NoDisk => (first | k_is | rfl))
    (case x_NoNumber_NoNumber => (first | k_is | rfl))
    (case x_NoNumber_NoPage => (first | k_is | rfl))
    (case x_NoPage_Dark => (first | k_is | rfl))
    (case x_NoPage_LoreError => (first | k_is | rfl))
    (case x_NoPage_NoDisk => (first | k_is | rfl))
    (case x_NoPage_NoNumber => (first | k_is | rfl))
    (case x_NoPage_NoPage => (first | k_is | rfl))
    (case e_Dark =>
      intro base
      refine' Z.errZ_mk (L := ?L) ["many"] (by decide) ?xL ?sa ?ga ?gg ?kC ?eC ?tC ?hC ?iC ?ha ?hm ?hn ?ht ?nF (fun O => Z.errZ_1 (L := ?L) ⟨PySem.W.mg_of KX G ?bL, ?rd, ?bg, ?vI⟩ O My.i_Dark (fun _ _ _ _ _ _ us hl => match us, hl with | [_, _], _ => rfl) ?i ?l ?c ?k ?tI ?f0)
      (case bL => k_is)
      (case xL => first | k_is | rfl)
      (case sa => first | k_is | rfl)
      (case ga => first | k_is | rfl)
      (case gg => first | k_is | rfl)
      (case kC => first | k_is | rfl)
      (case eC => first | k_is | rfl)
      (case tC => first | k_is | rfl)
      (case hC => first | k_is | rfl)
      (case iC => first | k_is | rfl)
      (case ha => first | k_is | rfl)
      (case hm => first | k_is | rfl)
      (case hn => first | k_is | rfl)
      (case ht => first | k_is | rfl)
      (case nF => simp only [List.forall_mem_cons, List.not_mem_nil, false_implies, implies_true, and_true]; k_is)
      (case rd => first | k_is | rfl)
      (case bg => first | k_is | rfl)
      (case vI => first | k_is | rfl)
      (case i => first | k_is | rfl)
      (case l => first | k_is | rfl)
      (case c => first | k_is | rfl)
      (case k => first | k_is | rfl)
      (case tI => first | k_is | rfl)
      (case f0 => first | k_is | rfl))
    (case e_NoDisk =>
      intro base
      refine' Z.errZ_mk (L := ?L) ["found"] (by decide) ?xL ?sa ?ga ?gg ?kC ?eC ?tC ?hC ?iC ?ha ?hm ?hn ?ht ?nF (fun O => Z.errZ_1 (L := ?L) ⟨PySem.W.mg_of KX G ?bL, ?rd, ?bg, ?vI⟩ O My.i_NoDisk (fun _ _ _ _ _ _ us hl => match us, hl with | [_, _], _ => rfl) ?i ?l ?c ?k ?tI ?f0)
      (case bL => k_is)
      (case xL => first | k_is | rfl)
      (case sa => first | k_is | rfl)
      (case ga => first | k_is | rfl)
      (case gg => first | k_is | rfl)
      (case kC => first | k_is | rfl)
      (case eC => first | k_is | rfl)
      (case tC => first | k_is | rfl)
      (case hC => first | k_is | rfl)
      (case iC => first | k_is | rfl)
      (case ha => first | k_is | rfl)
      (case hm => first | k_is | rfl)
      (case hn => first | k_is | rfl)
      (case ht => first | k_is | rfl)
      (case nF => simp only [List.forall_mem_cons, List.not_mem_nil, false_implies, implies_true, and_true]; k_is)
      (case rd => first | k_is | rfl)
      (case bg => first | k_is | rfl)
      (case vI => first | k_is | rfl)
      (case i => first | k_is | rfl)
      (case l => first | k_is | rfl)
      (case c => first | k_is | rfl)
      (case k => first | k_is | rfl)
      (case tI => first | k_is | rfl)
      (case f0 => first | k_is | rfl))
    (case e_NoNumber =>
      intro base
      refine' Z.errZ_mk (L := ?L) ["found"] (by decide) ?xL ?sa ?ga ?gg ?kC ?eC ?tC ?hC ?iC ?ha ?hm ?hn ?ht ?nF (fun O => Z.errZ_1 (L := ?L) ⟨PySem.W.mg_of KX G ?bL, ?rd, ?bg, ?vI⟩ O My.i_NoNumber (fun _ _ _ _ _ _ us hl => match us, hl with | [_, _], _ => rfl) ?i ?l ?c ?k ?tI ?f0)
      (case bL => k_is)
      (case xL => first | k_is | rfl)
      (case sa => first | k_is | rfl)
      (case ga => first | k_is | rfl)
      (case gg => first | k_is | rfl)
      (case kC => first | k_is | rfl)
      (case eC => first | k_is | rfl)
      (case tC => first | k_is | rfl)
      (case hC => first | k_is | rfl)
      (case iC => first | k_is | rfl)
      (case ha => first | k_is | rfl)
      (case hm => first | k_is | rfl)
      (case hn => first | k_is | rfl)
      (case ht => first | k_is | rfl)
      (case nF => simp only [List.forall_mem_cons, List.not_mem_nil, false_implies, implies_true, and_true]; k_is)
      (case rd => first | k_is | rfl)
      (case bg => first | k_is | rfl)
      (case vI => first | k_is | rfl)
      (case i => first | k_is | rfl)
      (case l => first | k_is | rfl)
      (case c => first | k_is | rfl)
      (case k => first | k_is | rfl)
      (case tI => first | k_is | rfl)
      (case f0 => first | k_is | rfl))
    (case e_NoPage =>
      intro base
      refine' Z.errZ_mk (L := ?L) ["found"] (by decide) ?xL ?sa ?ga ?gg ?kC ?eC ?tC ?hC ?iC ?ha ?hm ?hn ?ht ?nF (fun O => Z.errZ_1 (L := ?L) ⟨PySem.W.mg_of KX G ?bL, ?rd, ?bg, ?vI⟩ O My.i_NoPage (fun _ _ _ _ _ _ us hl => match us, hl with | [_, _], _ => rfl) ?i ?l ?c ?k ?tI ?f0)
      (case bL => k_is)
      (case xL => first | k_is | rfl)
      (case sa => first | k_is | rfl)
      (case ga => first | k_is | rfl)
      (case gg => first | k_is | rfl)
      (case kC => first | k_is | rfl)
      (case eC => first | k_is | rfl)
      (case tC => first | k_is | rfl)
      (case hC => first | k_is | rfl)
      (case iC => first | k_is | rfl)
      (case ha => first | k_is | rfl)
      (case hm => first | k_is | rfl)
      (case hn => first | k_is | rfl)
      (case ht => first | k_is | rfl)
      (case nF => simp only [List.forall_mem_cons, List.not_mem_nil, false_implies, implies_true, and_true]; k_is)
      (case rd => first | k_is | rfl)
      (case bg => first | k_is | rfl)
      (case vI => first | k_is | rfl)
      (case i => first | k_is | rfl)
      (case l => first | k_is | rfl)
      (case c => first | k_is | rfl)
      (case k => first | k_is | rfl)
      (case tI => first | k_is | rfl)
      (case f0 => first | k_is | rfl))
    (case d__law_asked => refine' Z.defZ_mk KX G My.N__law_asked rfl rfl My.sc__law_asked My.y__law_asked (fun _ _ _ _ _ _ us hl => match us, hl with | [_, _, _], _ => rfl) ?a ?l ?c ?k; (case a => k_is); (case l => k_is); (case c => k_is); (case k => k_is))
    (case d__law_box => refine' Z.defZ_mk KX G My.N__law_box rfl rfl My.sc__law_box My.y__law_box (fun _ _ _ _ _ _ us hl => match us, hl with | [_], _ => rfl) ?a ?l ?c ?k; (case a => k_is); (case l => k_is); (case c => k_is); (case k => k_is))
    (case d__law_case => refine' Z.defZ_mk KX G My.N__law_case rfl rfl My.sc__law_case My.y__law_case (fun _ _ _ _ _ _ us hl => match us, hl with | [_], _ => rfl) ?a ?l ?c ?k; (case a => k_is); (case l => k_is); (case c => k_is); (case k => k_is))
    (case d__law_cell_at => refine' Z.defZ_mk KX G My.N__law_cell_at rfl rfl My.sc__law_cell_at My.y__law_cell_at (fun _ _ _ _ _ _ us hl => match us, hl with | [_, _], _ => rfl) ?a ?l ?c ?k; (case a => k_is); (case l => k_is); (case c => k_is); (case k => k_is))
    (case d__law_due => refine' Z.defZ_mk KX G My.N__law_due rfl rfl My.sc__law_due My.y__law_due (fun _ _ _ _ _ _ us hl => match us, hl with | [_, _, _, _, _], _ => rfl) ?a ?l ?c ?k; (case a => k_is); (case l => k_is); (case c => k_is); (case k => k_is))
    (case d__law_no_page => refine' Z.defZ_mk KX G My.N__law_no_page rfl rfl My.sc__law_no_page My.y__law_no_page (fun _ _ _ _ _ _ us hl => match us, hl with | [_], _ => rfl) ?a ?l ?c ?k; (case a => k_is); (case l => k_is); (case c => k_is); (case k => k_is))
    (case d__law_refused => refine' Z.defZ_mk KX G My.N__law_refused rfl rfl My.sc__law_refused My.y__law_refused (fun _ _ _ _ _ _ us hl => match us, hl with | [_, _, _], _ => rfl) ?a ?l ?c ?k; (case a => k_is); (case l => k_is); (case c => k_is); (case k => k_is))
    (case d__law_take => refine' Z.defZ_mk KX G My.N__law_take rfl rfl My.sc__law_take My.y__law_take (fun _ _ _ _ _ _ us hl => match us, hl with | [_, _], _ => rfl) ?a ?l ?c ?k; (case a => k_is); (case l => k_is); (case c => k_is); (case k => k_is))
    (case d__law_word => refine' Z.defZ_mk KX G My.N__law_word rfl rfl My.sc__law_word My.y__law_word (fun _ _ _ _ _ _ us hl => match us, hl with | [_], _ => rfl) ?a ?l ?c ?k; (case a => k_is); (case l => k_is); (case c => k_is); (case k => k_is))
    (case d_blank_page => refine' Z.defZ_mk KX G My.N_blank_page rfl rfl My.sc_blank_page My.y_blank_page (fun _ _ _ _ _ _ us hl => match us, hl with | [], _ => rfl) ?a ?l ?c ?k; (case a => k_is); (case l => k_is); (case c => k_is); (case k => k_is))
    (case d_disk_of => refine' Z.defZ_mk KX G My.N_disk_of rfl rfl My.sc_disk_of My.y_disk_of (fun _ _ _ _ _ _ us hl => match us, hl with | [_], _ => rfl) ?a ?l ?c ?k; (case a => k_is); (case l => k_is); (case c => k_is); (case k => k_is))
    (case d_is_page => refine' Z.defZ_mk KX G My.N_is_page rfl rfl My.sc_is_page My.y_is_page (fun _ _ _ _ _ _ us hl => match us, hl with | [_], _ => rfl) ?a ?l ?c ?k; (case a => k_is); (case l => k_is); (case c => k_is); (case k => k_is))
    (case d_is_whole => refine' Z.defZ_mk KX G My.N_is_whole rfl rfl My.sc_is_whole My.y_is_whole (fun _ _ _ _ _ _ us hl => match us, hl with | [_], _ => rfl) ?a ?l ?c ?k; (case a => k_is); (case l => k_is); (case c => k_is); (case k => k_is))
    (case d_is_within => refine' Z.defZ_mk KX G My.N_is_within rfl rfl My.sc_is_within My.y_is_within (fun _ _ _ _ _ _ us hl => match us, hl with | [_, _, _], _ => rfl) ?a ?l ?c ?k; (case a => k_is); (case l => k_is); (case c => k_is); (case k => k_is))
    (case d_law => refine' Z.defZ_mk KX G My.N_law rfl rfl My.sc_law My.y_law (fun _ _ _ _ _ _ us hl => match us, hl with | [_], _ => rfl) ?a ?l ?c ?k; (case a => k_is); (case l => k_is); (case c => k_is); (case k => k_is))
    (case m_Disk_init => refine' Z.initZ_mk My.N_Disk_init rfl rfl My.sc_Disk_init My.y_Disk_init (fun _ _ _ _ _ _ us hl => match us, hl with | [_, _], _ => rfl) ?mk ?a ?i ?kc ?l ?c ?k; (case mk => k_is); (case a => k_is); (case i => k_is); (case kc => k_is); (case l => k_is); (case c => k_is); (case k => k_is))
    (case m_Disk_how_many => refine' Z.methZ_mk My.N_Disk_how_many rfl rfl My.sc_Disk_how_many My.y_Disk_how_many (fun _ _ _ _ _ _ us hl => match us, hl with | [_], _ => rfl) ?a ?i ?l ?c ?k; (case a => k_is); (case i => k_is); (case l => k_is); (case c => k_is); (case k => k_is))
    (case m_Disk_need_number => refine' Z.methZ_mk My.N_Disk_need_number rfl rfl My.sc_Disk_need_number My.y_Disk_need_number (fun _ _ _ _ _ _ us hl => match us, hl with | [_, _], _ => rfl) ?a ?i ?l ?c ?k; (case a => k_is); (case i => k_is); (case l => k_is); (case c => k_is); (case k => k_is))
    (case m_Disk_page_at => refine' Z.methZ_mk My.N_Disk_page_at rfl rfl My.sc_Disk_page_at My.y_Disk_page_at (fun _ _ _ _ _ _ us hl => match us, hl with | [_, _], _ => rfl) ?a ?i ?l ?c ?k; (case a => k_is); (case i => k_is); (case l => k_is); (case c => k_is); (case k => k_is))
    (case m_Disk_pages => refine' Z.methZ_mk My.N_Disk_pages rfl rfl My.sc_Disk_pages My.y_Disk_pages (fun _ _ _ _ _ _ us hl => match us, hl with | [_], _ => rfl) ?a ?i ?l ?c ?k; (case a => k_is); (case i => k_is); (case l => k_is); (case c => k_is); (case k => k_is))
    (case m_Disk_write => refine' Z.methZ_mkD My.N_Disk_write rfl rfl My.sc_Disk_write My.y_Disk_write (fun _ _ _ _ _ _ _ us hl => match us, hl with | [_, _, _, _], _ => ⟨_, rfl, rfl⟩) (fun _ _ _ _ _ _ _ us hl => match us, hl with | [_, _, _], _ => ⟨_, rfl, rfl⟩) ?a ?i ?l ?c ?k ?lT ?hi; (case a => k_is); (case i => k_is); (case l => k_is); (case c => k_is); (case k => k_is); (case lT => k_is); (case hi => rfl))
    (case m_Power_init => refine' Z.initZ_mkD My.N_Power_init rfl rfl My.sc_Power_init My.y_Power_init (fun _ _ _ _ _ _ _ us hl => match us, hl with | [_, _], _ => ⟨_, rfl, rfl⟩) (fun _ _ _ _ _ _ _ us hl => match us, hl with | [_], _ => ⟨_, rfl, rfl⟩) ?mk ?a ?i ?kc ?l ?c ?lT ?hi; (case mk => k_is); (case a => k_is); (case i => k_is); (case kc => k_is); (case l => k_is); (case c => k_is); (case lT => k_is); (case hi => rfl))
    (case m_Power_left_over => refine' Z.methZ_mk My.N_Power_left_over rfl rfl My.sc_Power_left_over My.y_Power_left_over (fun _ _ _ _ _ _ us hl => match us, hl with | [_], _ => rfl) ?a ?i ?l ?c ?k; (case a => k_is); (case i => k_is); (case l => k_is); (case c => k_is); (case k => k_is))
    (case m_Power_spend => refine' Z.methZ_mk My.N_Power_spend rfl rfl My.sc_Power_spend My.y_Power_spend (fun _ _ _ _ _ _ us hl => match us, hl with | [_], _ => rfl) ?a ?i ?l ?c ?k; (case a => k_is); (case i => k_is); (case l => k_is); (case c => k_is); (case k => k_is))
    (case m_Power_written => refine' Z.methZ_mk My.N_Power_written rfl rfl My.sc_Power_written My.y_Power_written (fun _ _ _ _ _ _ us hl => match us, hl with | [_], _ => rfl) ?a ?i ?l ?c ?k; (case a => k_is); (case i => k_is); (case l => k_is); (case c => k_is); (case k => k_is))
    (case o_Disk => refine' ⟨⟨?pg, ?hd, ?po, ?sa⟩, ?c1, ?c2, ?c3, ?c4⟩; (case pg => k_is); (case hd => k_is); (case po => k_is); (case sa => k_is); (case c1 => k_is); (case c2 => k_is); (case c3 => k_is); (case c4 => k_is))
    (case o_Power => refine' ⟨⟨?pg, ?hd, ?po, ?sa⟩, ?c1, ?c2, ?c3, ?c4⟩; (case pg => k_is); (case hd => k_is); (case po => k_is); (case sa => k_is); (case c1 => k_is); (case c2 => k_is); (case c3 => k_is); (case c4 => k_is))
    (case n_Disk_sheets => show PySem.W.findIn _ (.ref _) _ = some none; k_is)
    (case n_Power_limit => show PySem.W.findIn _ (.ref _) _ = some none; k_is)
    (case n_Power_spent => show PySem.W.findIn _ (.ref _) _ = some none; k_is)
