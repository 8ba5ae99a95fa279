import PyProof.Rows.All
import HandS.ClsMeth
import HandS.Conv
import HandS.Deep
import HandS.DeepEq
import HandS.Defaults
import HandS.Dict
import HandS.DictComp
import HandS.DictTup
import HandS.Ends
import HandS.Exc
import HandS.ExcCtx
import HandS.ExcField
import HandS.ExcInit
import HandS.ExcInitHot
import HandS.ExcIs
import HandS.FStr
import HandS.Finally
import HandS.Flt
import HandS.ForMost
import HandS.Hot
import HandS.HotCalls
import HandS.IsInst
import HandS.Iter
import HandS.IterVal
import HandS.ListItems
import HandS.MakeKwOnly
import HandS.MethStar
import HandS.More
import HandS.OwnIter
import HandS.Property
import HandS.RaiseFrom
import HandS.Rev
import HandS.RevRange
import HandS.Star
import HandS.StrMore
import HandS.Strs
import HandS.SuiteRaise
import HandS.TryMany
import HandS.TupAny
import HandS.Wide
import HandS.Zip
import KE.DataFind
import KE.GoesEnum
import KE.GoesMore
import KE.GoesZip
import KE.KDictList
import KE.KDictZip
import KE.KExcIs
import KE.KExcSuper
import KE.KOpsOwn
import KE.KWithOwn
import KE.KxField
import OpenK.AllK
import PyProof.ListMulAny
import PyProof.ListMulRight
import PyProof.NeKinds
import PyProof.NsDelKeeps
import PyProof.RulesAs
import Wide.All
import Wide.FinOn
import PySem.Challenge.RW_soundyard_k01_errors_and_fields
set_option Elab.async false
set_option maxRecDepth 100000
set_option linter.all false
set_option maxHeartbeats 40000000
theorem PySem.W.Fast.tw4851639198478812406 : True := trivial
theorem PySem.W.Fast.tw10333962860957654870 : True := trivial
theorem PySem.W.Fast.tw11794160408161544562 : True := trivial
theorem PySem.W.Fast.tw6571083642707088828 : True := trivial
theorem PySem.W.Fast.tw7984551963547790844 : True := trivial
theorem PySem.W.Fast.tw13864514581151677973 : True := trivial
theorem PySem.W.Fast.tw12588731836788286689 : True := trivial
theorem PySem.W.Fast.tw11805536451925445313 : True := trivial
theorem PySem.W.Fast.tw6423178346421832480 : True := trivial
theorem PySem.W.Fast.tw8650830103604213897 : True := trivial
theorem PySem.W.Fast.tw7182824564353065829 : True := trivial
theorem PySem.W.Fast.tw6982654609368016455 : True := trivial
theorem PySem.W.Fast.tw13312387417155758163 : True := trivial
namespace GL
end GL
namespace K01
open PySem L2 GL
def top (i : Nat) : Stmt := PySem.Challenge.pw_soundyard_k01_errors_and_fields.main.body.getD i (.Pass ⟨0, 0, 0, 0⟩)
abbrev s_Hold_init : Stmt := inClass (top 11) 0
abbrev s_law_pool : Stmt := top 13
abbrev s_law_take : Stmt := top 14
abbrev s_law_base : Stmt := top 15
abbrev s_law_name : Stmt := top 16
abbrev s_law_is_only : Stmt := top 17
abbrev s_law : Stmt := top 18
abbrev s_Repeated_init : Stmt := inClass (top 2) 0
abbrev s_Unknown_init : Stmt := inClass (top 3) 0
abbrev s_NoStep_init : Stmt := inClass (top 4) 0
abbrev s_BadCount_init : Stmt := inClass (top 5) 0
abbrev s_Lacking_init : Stmt := inClass (top 6) 0
abbrev s_Shut_init : Stmt := inClass (top 7) 0
abbrev s_Unmet_init : Stmt := inClass (top 8) 0
abbrev s_Never_init : Stmt := inClass (top 9) 0
section
variable {P : Program} {w : World} {K : PySem.W.Frag} {mg : Str → Option Value} {base : Heap} {a : Ad}
def spLaw (K : PySem.W.Frag) : Sp := fun vs H Q _ => ∃ (a : Addr) (ns : List Int), vs = [.ref a] ∧ SqL K H a (ns.map V.int) ∧ ns.length ≤ 63 ∧ ∀ H', Q (.bl true) H'
end
def LawOk : Prop := ∀ {l : PySem.W.OpenLaw} {w : World} {K : PySem.W.Frag} {h : Heap} {mg : Str → Option Value} {fa : Addr} (X : K.In h) (G : h.Ns mainGlobals mg) (hfa : mg "law" = some (.ref fa))
    {C_Hold : Addr}
    {C_Repeated : Addr}
    {nm_Repeated q_Repeated : Str} {N_Repeated : Addr} {bs_Repeated bm_Repeated : List Value} {sn_Repeated : List Str} {sb_Repeated : List Value} {ab_Repeated : Bool} {cl_Repeated : Option Bool} {dd_Repeated : Option Addr} {k0_Repeated k1_Repeated k2_Repeated k3_Repeated k5_Repeated : Option Value}
    {C_Unknown : Addr}
    {nm_Unknown q_Unknown : Str} {N_Unknown : Addr} {bs_Unknown bm_Unknown : List Value} {sn_Unknown : List Str} {sb_Unknown : List Value} {ab_Unknown : Bool} {cl_Unknown : Option Bool} {dd_Unknown : Option Addr} {k0_Unknown k1_Unknown k2_Unknown k3_Unknown k5_Unknown : Option Value}
    {C_NoStep : Addr}
    {nm_NoStep q_NoStep : Str} {N_NoStep : Addr} {bs_NoStep bm_NoStep : List Value} {sn_NoStep : List Str} {sb_NoStep : List Value} {ab_NoStep : Bool} {cl_NoStep : Option Bool} {dd_NoStep : Option Addr} {k0_NoStep k1_NoStep k2_NoStep k3_NoStep k5_NoStep : Option Value}
    {C_BadCount : Addr}
    {nm_BadCount q_BadCount : Str} {N_BadCount : Addr} {bs_BadCount bm_BadCount : List Value} {sn_BadCount : List Str} {sb_BadCount : List Value} {ab_BadCount : Bool} {cl_BadCount : Option Bool} {dd_BadCount : Option Addr} {k0_BadCount k1_BadCount k2_BadCount k3_BadCount k5_BadCount : Option Value}
    {C_Lacking : Addr}
    {nm_Lacking q_Lacking : Str} {N_Lacking : Addr} {bs_Lacking bm_Lacking : List Value} {sn_Lacking : List Str} {sb_Lacking : List Value} {ab_Lacking : Bool} {cl_Lacking : Option Bool} {dd_Lacking : Option Addr} {k0_Lacking k1_Lacking k2_Lacking k3_Lacking k5_Lacking : Option Value}
    {C_Shut : Addr}
    {nm_Shut q_Shut : Str} {N_Shut : Addr} {bs_Shut bm_Shut : List Value} {sn_Shut : List Str} {sb_Shut : List Value} {ab_Shut : Bool} {cl_Shut : Option Bool} {dd_Shut : Option Addr} {k0_Shut k1_Shut k2_Shut k3_Shut k5_Shut : Option Value}
    {C_Unmet : Addr}
    {nm_Unmet q_Unmet : Str} {N_Unmet : Addr} {bs_Unmet bm_Unmet : List Value} {sn_Unmet : List Str} {sb_Unmet : List Value} {ab_Unmet : Bool} {cl_Unmet : Option Bool} {dd_Unmet : Option Addr} {k0_Unmet k1_Unmet k2_Unmet k3_Unmet k5_Unmet : Option Value}
    {C_Never : Addr}
    {nm_Never q_Never : Str} {N_Never : Addr} {bs_Never bm_Never : List Value} {sn_Never : List Str} {sb_Never : List Value} {ab_Never : Bool} {cl_Never : Option Bool} {dd_Never : Option Addr} {k0_Never k1_Never k2_Never k3_Never k5_Never : Option Value}
    {C_YardError : Addr}
    {f_Repeated_init cda_Repeated_init cc_Repeated_init : Addr} {od_1 an_1 : Option Addr} {sl_1 : Array (Option Value)} {oc_1 kV_1 dc_1 pm_1 ct_1 : Value}
    {ccl_Repeated_init cl_Repeated_init : Value} {cdd_Repeated_init cld_Repeated_init : Option Addr} {cvs_Repeated_init : Array Value} {ccs_Repeated_init csl_Repeated_init : Array (Option Value)} {file_Repeated_init : Str} {tf_Repeated_init : Tok}
    {f_Unknown_init cda_Unknown_init cc_Unknown_init : Addr} {od_2 an_2 : Option Addr} {sl_2 : Array (Option Value)} {oc_2 kV_2 dc_2 pm_2 ct_2 : Value}
    {ccl_Unknown_init cl_Unknown_init : Value} {cdd_Unknown_init cld_Unknown_init : Option Addr} {cvs_Unknown_init : Array Value} {ccs_Unknown_init csl_Unknown_init : Array (Option Value)} {file_Unknown_init : Str} {tf_Unknown_init : Tok}
    {f_NoStep_init cda_NoStep_init cc_NoStep_init : Addr} {od_5 an_5 : Option Addr} {sl_5 : Array (Option Value)} {oc_5 kV_5 dc_5 pm_5 ct_5 : Value}
    {ccl_NoStep_init cl_NoStep_init : Value} {cdd_NoStep_init cld_NoStep_init : Option Addr} {cvs_NoStep_init : Array Value} {ccs_NoStep_init csl_NoStep_init : Array (Option Value)} {file_NoStep_init : Str} {tf_NoStep_init : Tok}
    {f_BadCount_init cda_BadCount_init cc_BadCount_init : Addr} {od_0 an_0 : Option Addr} {sl_0 : Array (Option Value)} {oc_0 kV_0 dc_0 pm_0 ct_0 : Value}
    {ccl_BadCount_init cl_BadCount_init : Value} {cdd_BadCount_init cld_BadCount_init : Option Addr} {cvs_BadCount_init : Array Value} {ccs_BadCount_init csl_BadCount_init : Array (Option Value)} {file_BadCount_init : Str} {tf_BadCount_init : Tok}
    {f_Lacking_init cda_Lacking_init cc_Lacking_init : Addr} {od_3 an_3 : Option Addr} {sl_3 : Array (Option Value)} {oc_3 kV_3 dc_3 pm_3 ct_3 : Value}
    {ccl_Lacking_init cl_Lacking_init : Value} {cdd_Lacking_init cld_Lacking_init : Option Addr} {cvs_Lacking_init : Array Value} {ccs_Lacking_init csl_Lacking_init : Array (Option Value)} {file_Lacking_init : Str} {tf_Lacking_init : Tok}
    {f_Shut_init cda_Shut_init cc_Shut_init : Addr} {od_8 an_8 : Option Addr} {sl_8 : Array (Option Value)} {oc_8 kV_8 dc_8 pm_8 ct_8 : Value}
    {ccl_Shut_init cl_Shut_init : Value} {cdd_Shut_init cld_Shut_init : Option Addr} {cvs_Shut_init : Array Value} {ccs_Shut_init csl_Shut_init : Array (Option Value)} {file_Shut_init : Str} {tf_Shut_init : Tok}
    {f_Unmet_init cda_Unmet_init cc_Unmet_init : Addr} {od_6 an_6 : Option Addr} {sl_6 : Array (Option Value)} {oc_6 kV_6 dc_6 pm_6 ct_6 : Value}
    {ccl_Unmet_init cl_Unmet_init : Value} {cdd_Unmet_init cld_Unmet_init : Option Addr} {cvs_Unmet_init : Array Value} {ccs_Unmet_init csl_Unmet_init : Array (Option Value)} {file_Unmet_init : Str} {tf_Unmet_init : Tok}
    {f_Never_init cda_Never_init cc_Never_init : Addr} {od_7 an_7 : Option Addr} {sl_7 : Array (Option Value)} {oc_7 kV_7 dc_7 pm_7 ct_7 : Value}
    {ccl_Never_init cl_Never_init : Value} {cdd_Never_init cld_Never_init : Option Addr} {cvs_Never_init : Array Value} {ccs_Never_init csl_Never_init : Array (Option Value)} {file_Never_init : Str} {tf_Never_init : Tok}
    {f_Hold_init : Addr} {od_9 an_9 : Option Addr} {sl_9 : Array (Option Value)} {oc_9 kV_9 dc_9 pm_9 cd_9 ct_9 : Value}
    {t_Hold_init : Addr} {nt_Hold_init : Nat}
    {odt_Hold_init ode_Hold_init : Option Addr} {slt_Hold_init sle_Hold_init : Array (Option Value)} {e_Hold_init : Addr} {ne_Hold_init : Nat} {ct1_Hold_init : Value}
    {f_law_pool : Addr} {od_13 an_13 : Option Addr} {sl_13 : Array (Option Value)} {oc_13 kV_13 dc_13 pm_13 cd_13 ct_13 : Value}
    {f_law_take : Addr} {od_10 an_10 : Option Addr} {sl_10 : Array (Option Value)} {oc_10 kV_10 dc_10 pm_10 cd_10 ct_10 : Value}
    {f_law_base : Addr} {od_11 an_11 : Option Addr} {sl_11 : Array (Option Value)} {oc_11 kV_11 dc_11 pm_11 cd_11 ct_11 : Value}
    {f_law_name : Addr} {od_12 an_12 : Option Addr} {sl_12 : Array (Option Value)} {oc_12 kV_12 dc_12 pm_12 cd_12 ct_12 : Value}
    {f_law_is_only : Addr} {od_4 an_4 : Option Addr} {sl_4 : Array (Option Value)} {oc_4 kV_4 dc_4 pm_4 cd_4 ct_4 : Value}
    {f_law : Addr} {od_14 an_14 : Option Addr} {sl_14 : Array (Option Value)} {oc_14 kV_14 dc_14 pm_14 cd_14 ct_14 : Value}
    (aC_Hold : PySem.W.nsIn K mainGlobals "Hold" = some (some (.ref C_Hold)))
    (aC_Repeated : PySem.W.nsIn K mainGlobals "Repeated" = some (some (.ref C_Repeated)))
    (lC_Repeated : K.lookup C_Repeated = some (excClassObj nm_Repeated q_Repeated C_Repeated N_Repeated bs_Repeated bm_Repeated true sn_Repeated sb_Repeated ab_Repeated cl_Repeated dd_Repeated k0_Repeated k1_Repeated k2_Repeated k3_Repeated k5_Repeated "ValueError.__new__"))
    (rv_Repeated : PySem.HandSPX.refsVE bm_Repeated = true)
    (sa_Repeated : PySem.W.findIn K (.ref C_Repeated) "__setattr__" = some (some (.builtin "object.__setattr__")))
    (eb_Repeated : PySem.W.subIn K (.ref C_Repeated) (.type "BaseException") = some true)
    (ty_Repeated : PySem.W.typeIn K (.ref C_Repeated) = some (.type "type"))
    (kc_Repeated : PySem.W.keepIn K (.ref C_Repeated) = true)
    (su_Repeated : PySem.W.ks_superIn K C_Repeated C_Repeated "__init__" = some (some (.builtin "ValueError.__init__")))
    (ve_Repeated : PySem.W.subIn K (.ref C_Repeated) (.type "ValueError") = some true)
    (mr_Repeated : PySem.W.mroIn K C_Repeated (.ref C_Repeated) = some true)
    (ga_Repeated : PySem.W.findIn K (.ref C_Repeated) "__getattribute__" = some (some (.builtin "BaseException.__getattribute__")))
    (gg_Repeated : PySem.W.findIn K (.ref C_Repeated) "__getattr__" = some none)
    (hd_Repeated : PySem.W.hasDictIn K C_Repeated = true)
    (na_Repeated_name : PySem.W.findIn K (.ref C_Repeated) "name" = some none)
    (aC_Unknown : PySem.W.nsIn K mainGlobals "Unknown" = some (some (.ref C_Unknown)))
    (lC_Unknown : K.lookup C_Unknown = some (excClassObj nm_Unknown q_Unknown C_Unknown N_Unknown bs_Unknown bm_Unknown true sn_Unknown sb_Unknown ab_Unknown cl_Unknown dd_Unknown k0_Unknown k1_Unknown k2_Unknown k3_Unknown k5_Unknown "ValueError.__new__"))
    (rv_Unknown : PySem.HandSPX.refsVE bm_Unknown = true)
    (sa_Unknown : PySem.W.findIn K (.ref C_Unknown) "__setattr__" = some (some (.builtin "object.__setattr__")))
    (eb_Unknown : PySem.W.subIn K (.ref C_Unknown) (.type "BaseException") = some true)
    (ty_Unknown : PySem.W.typeIn K (.ref C_Unknown) = some (.type "type"))
    (kc_Unknown : PySem.W.keepIn K (.ref C_Unknown) = true)
    (su_Unknown : PySem.W.ks_superIn K C_Unknown C_Unknown "__init__" = some (some (.builtin "ValueError.__init__")))
    (ve_Unknown : PySem.W.subIn K (.ref C_Unknown) (.type "ValueError") = some true)
    (mr_Unknown : PySem.W.mroIn K C_Unknown (.ref C_Unknown) = some true)
    (ga_Unknown : PySem.W.findIn K (.ref C_Unknown) "__getattribute__" = some (some (.builtin "BaseException.__getattribute__")))
    (gg_Unknown : PySem.W.findIn K (.ref C_Unknown) "__getattr__" = some none)
    (hd_Unknown : PySem.W.hasDictIn K C_Unknown = true)
    (na_Unknown_name : PySem.W.findIn K (.ref C_Unknown) "name" = some none)
    (aC_NoStep : PySem.W.nsIn K mainGlobals "NoStep" = some (some (.ref C_NoStep)))
    (lC_NoStep : K.lookup C_NoStep = some (excClassObj nm_NoStep q_NoStep C_NoStep N_NoStep bs_NoStep bm_NoStep true sn_NoStep sb_NoStep ab_NoStep cl_NoStep dd_NoStep k0_NoStep k1_NoStep k2_NoStep k3_NoStep k5_NoStep "ValueError.__new__"))
    (rv_NoStep : PySem.HandSPX.refsVE bm_NoStep = true)
    (sa_NoStep : PySem.W.findIn K (.ref C_NoStep) "__setattr__" = some (some (.builtin "object.__setattr__")))
    (eb_NoStep : PySem.W.subIn K (.ref C_NoStep) (.type "BaseException") = some true)
    (ty_NoStep : PySem.W.typeIn K (.ref C_NoStep) = some (.type "type"))
    (kc_NoStep : PySem.W.keepIn K (.ref C_NoStep) = true)
    (su_NoStep : PySem.W.ks_superIn K C_NoStep C_NoStep "__init__" = some (some (.builtin "ValueError.__init__")))
    (ve_NoStep : PySem.W.subIn K (.ref C_NoStep) (.type "ValueError") = some true)
    (mr_NoStep : PySem.W.mroIn K C_NoStep (.ref C_NoStep) = some true)
    (ga_NoStep : PySem.W.findIn K (.ref C_NoStep) "__getattribute__" = some (some (.builtin "BaseException.__getattribute__")))
    (gg_NoStep : PySem.W.findIn K (.ref C_NoStep) "__getattr__" = some none)
    (hd_NoStep : PySem.W.hasDictIn K C_NoStep = true)
    (na_NoStep_before : PySem.W.findIn K (.ref C_NoStep) "before" = some none)
    (na_NoStep_after : PySem.W.findIn K (.ref C_NoStep) "after" = some none)
    (aC_BadCount : PySem.W.nsIn K mainGlobals "BadCount" = some (some (.ref C_BadCount)))
    (lC_BadCount : K.lookup C_BadCount = some (excClassObj nm_BadCount q_BadCount C_BadCount N_BadCount bs_BadCount bm_BadCount true sn_BadCount sb_BadCount ab_BadCount cl_BadCount dd_BadCount k0_BadCount k1_BadCount k2_BadCount k3_BadCount k5_BadCount "ValueError.__new__"))
    (rv_BadCount : PySem.HandSPX.refsVE bm_BadCount = true)
    (sa_BadCount : PySem.W.findIn K (.ref C_BadCount) "__setattr__" = some (some (.builtin "object.__setattr__")))
    (eb_BadCount : PySem.W.subIn K (.ref C_BadCount) (.type "BaseException") = some true)
    (ty_BadCount : PySem.W.typeIn K (.ref C_BadCount) = some (.type "type"))
    (kc_BadCount : PySem.W.keepIn K (.ref C_BadCount) = true)
    (su_BadCount : PySem.W.ks_superIn K C_BadCount C_BadCount "__init__" = some (some (.builtin "ValueError.__init__")))
    (ve_BadCount : PySem.W.subIn K (.ref C_BadCount) (.type "ValueError") = some true)
    (mr_BadCount : PySem.W.mroIn K C_BadCount (.ref C_BadCount) = some true)
    (ga_BadCount : PySem.W.findIn K (.ref C_BadCount) "__getattribute__" = some (some (.builtin "BaseException.__getattribute__")))
    (gg_BadCount : PySem.W.findIn K (.ref C_BadCount) "__getattr__" = some none)
    (hd_BadCount : PySem.W.hasDictIn K C_BadCount = true)
    (na_BadCount_count : PySem.W.findIn K (.ref C_BadCount) "count" = some none)
    (aC_Lacking : PySem.W.nsIn K mainGlobals "Lacking" = some (some (.ref C_Lacking)))
    (lC_Lacking : K.lookup C_Lacking = some (excClassObj nm_Lacking q_Lacking C_Lacking N_Lacking bs_Lacking bm_Lacking true sn_Lacking sb_Lacking ab_Lacking cl_Lacking dd_Lacking k0_Lacking k1_Lacking k2_Lacking k3_Lacking k5_Lacking "ValueError.__new__"))
    (rv_Lacking : PySem.HandSPX.refsVE bm_Lacking = true)
    (sa_Lacking : PySem.W.findIn K (.ref C_Lacking) "__setattr__" = some (some (.builtin "object.__setattr__")))
    (eb_Lacking : PySem.W.subIn K (.ref C_Lacking) (.type "BaseException") = some true)
    (ty_Lacking : PySem.W.typeIn K (.ref C_Lacking) = some (.type "type"))
    (kc_Lacking : PySem.W.keepIn K (.ref C_Lacking) = true)
    (su_Lacking : PySem.W.ks_superIn K C_Lacking C_Lacking "__init__" = some (some (.builtin "ValueError.__init__")))
    (ve_Lacking : PySem.W.subIn K (.ref C_Lacking) (.type "ValueError") = some true)
    (mr_Lacking : PySem.W.mroIn K C_Lacking (.ref C_Lacking) = some true)
    (ga_Lacking : PySem.W.findIn K (.ref C_Lacking) "__getattribute__" = some (some (.builtin "BaseException.__getattribute__")))
    (gg_Lacking : PySem.W.findIn K (.ref C_Lacking) "__getattr__" = some none)
    (hd_Lacking : PySem.W.hasDictIn K C_Lacking = true)
    (na_Lacking_kind : PySem.W.findIn K (.ref C_Lacking) "kind" = some none)
    (na_Lacking_standing : PySem.W.findIn K (.ref C_Lacking) "standing" = some none)
    (aC_Shut : PySem.W.nsIn K mainGlobals "Shut" = some (some (.ref C_Shut)))
    (lC_Shut : K.lookup C_Shut = some (excClassObj nm_Shut q_Shut C_Shut N_Shut bs_Shut bm_Shut true sn_Shut sb_Shut ab_Shut cl_Shut dd_Shut k0_Shut k1_Shut k2_Shut k3_Shut k5_Shut "ValueError.__new__"))
    (rv_Shut : PySem.HandSPX.refsVE bm_Shut = true)
    (sa_Shut : PySem.W.findIn K (.ref C_Shut) "__setattr__" = some (some (.builtin "object.__setattr__")))
    (eb_Shut : PySem.W.subIn K (.ref C_Shut) (.type "BaseException") = some true)
    (ty_Shut : PySem.W.typeIn K (.ref C_Shut) = some (.type "type"))
    (kc_Shut : PySem.W.keepIn K (.ref C_Shut) = true)
    (su_Shut : PySem.W.ks_superIn K C_Shut C_Shut "__init__" = some (some (.builtin "ValueError.__init__")))
    (ve_Shut : PySem.W.subIn K (.ref C_Shut) (.type "ValueError") = some true)
    (mr_Shut : PySem.W.mroIn K C_Shut (.ref C_Shut) = some true)
    (ga_Shut : PySem.W.findIn K (.ref C_Shut) "__getattribute__" = some (some (.builtin "BaseException.__getattribute__")))
    (gg_Shut : PySem.W.findIn K (.ref C_Shut) "__getattr__" = some none)
    (hd_Shut : PySem.W.hasDictIn K C_Shut = true)
    (na_Shut_door : PySem.W.findIn K (.ref C_Shut) "door" = some none)
    (aC_Unmet : PySem.W.nsIn K mainGlobals "Unmet" = some (some (.ref C_Unmet)))
    (lC_Unmet : K.lookup C_Unmet = some (excClassObj nm_Unmet q_Unmet C_Unmet N_Unmet bs_Unmet bm_Unmet true sn_Unmet sb_Unmet ab_Unmet cl_Unmet dd_Unmet k0_Unmet k1_Unmet k2_Unmet k3_Unmet k5_Unmet "ValueError.__new__"))
    (rv_Unmet : PySem.HandSPX.refsVE bm_Unmet = true)
    (sa_Unmet : PySem.W.findIn K (.ref C_Unmet) "__setattr__" = some (some (.builtin "object.__setattr__")))
    (eb_Unmet : PySem.W.subIn K (.ref C_Unmet) (.type "BaseException") = some true)
    (ty_Unmet : PySem.W.typeIn K (.ref C_Unmet) = some (.type "type"))
    (kc_Unmet : PySem.W.keepIn K (.ref C_Unmet) = true)
    (su_Unmet : PySem.W.ks_superIn K C_Unmet C_Unmet "__init__" = some (some (.builtin "ValueError.__init__")))
    (ve_Unmet : PySem.W.subIn K (.ref C_Unmet) (.type "ValueError") = some true)
    (mr_Unmet : PySem.W.mroIn K C_Unmet (.ref C_Unmet) = some true)
    (ga_Unmet : PySem.W.findIn K (.ref C_Unmet) "__getattribute__" = some (some (.builtin "BaseException.__getattribute__")))
    (gg_Unmet : PySem.W.findIn K (.ref C_Unmet) "__getattr__" = some none)
    (hd_Unmet : PySem.W.hasDictIn K C_Unmet = true)
    (na_Unmet_kind : PySem.W.findIn K (.ref C_Unmet) "kind" = some none)
    (na_Unmet_standing : PySem.W.findIn K (.ref C_Unmet) "standing" = some none)
    (na_Unmet_door : PySem.W.findIn K (.ref C_Unmet) "door" = some none)
    (aC_Never : PySem.W.nsIn K mainGlobals "Never" = some (some (.ref C_Never)))
    (lC_Never : K.lookup C_Never = some (excClassObj nm_Never q_Never C_Never N_Never bs_Never bm_Never true sn_Never sb_Never ab_Never cl_Never dd_Never k0_Never k1_Never k2_Never k3_Never k5_Never "ValueError.__new__"))
    (rv_Never : PySem.HandSPX.refsVE bm_Never = true)
    (sa_Never : PySem.W.findIn K (.ref C_Never) "__setattr__" = some (some (.builtin "object.__setattr__")))
    (eb_Never : PySem.W.subIn K (.ref C_Never) (.type "BaseException") = some true)
    (ty_Never : PySem.W.typeIn K (.ref C_Never) = some (.type "type"))
    (kc_Never : PySem.W.keepIn K (.ref C_Never) = true)
    (su_Never : PySem.W.ks_superIn K C_Never C_Never "__init__" = some (some (.builtin "ValueError.__init__")))
    (ve_Never : PySem.W.subIn K (.ref C_Never) (.type "ValueError") = some true)
    (mr_Never : PySem.W.mroIn K C_Never (.ref C_Never) = some true)
    (ga_Never : PySem.W.findIn K (.ref C_Never) "__getattribute__" = some (some (.builtin "BaseException.__getattribute__")))
    (gg_Never : PySem.W.findIn K (.ref C_Never) "__getattr__" = some none)
    (hd_Never : PySem.W.hasDictIn K C_Never = true)
    (na_Never_closed : PySem.W.findIn K (.ref C_Never) "closed" = some none)
    (aC_YardError : PySem.W.nsIn K mainGlobals "YardError" = some (some (.ref C_YardError)))
    (icx_YardError : PySem.W.isClsIn K C_YardError = true)
    (ty_YardError : PySem.W.typeIn K (.ref C_YardError) = some (.type "type"))
    (xa_Repeated : PySem.W.findIn K (.ref C_Repeated) "__class__" = some (some (.builtin "object.__class__")))
    (xm_Repeated : PySem.W.mroIn K C_Repeated (.type "object") = some true)
    (sx_Repeated_Unknown : PySem.W.subIn K (.ref C_Repeated) (.ref C_Unknown) = some false)
    (ne_x_Repeated_Unknown : (Value.ref C_Repeated == Value.ref C_Unknown) = false)
    (sx_Repeated_NoStep : PySem.W.subIn K (.ref C_Repeated) (.ref C_NoStep) = some false)
    (ne_x_Repeated_NoStep : (Value.ref C_Repeated == Value.ref C_NoStep) = false)
    (sx_Repeated_BadCount : PySem.W.subIn K (.ref C_Repeated) (.ref C_BadCount) = some false)
    (ne_x_Repeated_BadCount : (Value.ref C_Repeated == Value.ref C_BadCount) = false)
    (sx_Repeated_Lacking : PySem.W.subIn K (.ref C_Repeated) (.ref C_Lacking) = some false)
    (ne_x_Repeated_Lacking : (Value.ref C_Repeated == Value.ref C_Lacking) = false)
    (sx_Repeated_Shut : PySem.W.subIn K (.ref C_Repeated) (.ref C_Shut) = some false)
    (ne_x_Repeated_Shut : (Value.ref C_Repeated == Value.ref C_Shut) = false)
    (sx_Repeated_Unmet : PySem.W.subIn K (.ref C_Repeated) (.ref C_Unmet) = some false)
    (ne_x_Repeated_Unmet : (Value.ref C_Repeated == Value.ref C_Unmet) = false)
    (sx_Repeated_Never : PySem.W.subIn K (.ref C_Repeated) (.ref C_Never) = some false)
    (ne_x_Repeated_Never : (Value.ref C_Repeated == Value.ref C_Never) = false)
    (sx_Repeated_YardError : PySem.W.subIn K (.ref C_Repeated) (.ref C_YardError) = some true)
    (ne_x_Repeated_YardError : (Value.ref C_Repeated == Value.ref C_YardError) = false)
    (xa_Unknown : PySem.W.findIn K (.ref C_Unknown) "__class__" = some (some (.builtin "object.__class__")))
    (xm_Unknown : PySem.W.mroIn K C_Unknown (.type "object") = some true)
    (sx_Unknown_Repeated : PySem.W.subIn K (.ref C_Unknown) (.ref C_Repeated) = some false)
    (ne_x_Unknown_Repeated : (Value.ref C_Unknown == Value.ref C_Repeated) = false)
    (sx_Unknown_NoStep : PySem.W.subIn K (.ref C_Unknown) (.ref C_NoStep) = some false)
    (ne_x_Unknown_NoStep : (Value.ref C_Unknown == Value.ref C_NoStep) = false)
    (sx_Unknown_BadCount : PySem.W.subIn K (.ref C_Unknown) (.ref C_BadCount) = some false)
    (ne_x_Unknown_BadCount : (Value.ref C_Unknown == Value.ref C_BadCount) = false)
    (sx_Unknown_Lacking : PySem.W.subIn K (.ref C_Unknown) (.ref C_Lacking) = some false)
    (ne_x_Unknown_Lacking : (Value.ref C_Unknown == Value.ref C_Lacking) = false)
    (sx_Unknown_Shut : PySem.W.subIn K (.ref C_Unknown) (.ref C_Shut) = some false)
    (ne_x_Unknown_Shut : (Value.ref C_Unknown == Value.ref C_Shut) = false)
    (sx_Unknown_Unmet : PySem.W.subIn K (.ref C_Unknown) (.ref C_Unmet) = some false)
    (ne_x_Unknown_Unmet : (Value.ref C_Unknown == Value.ref C_Unmet) = false)
    (sx_Unknown_Never : PySem.W.subIn K (.ref C_Unknown) (.ref C_Never) = some false)
    (ne_x_Unknown_Never : (Value.ref C_Unknown == Value.ref C_Never) = false)
    (sx_Unknown_YardError : PySem.W.subIn K (.ref C_Unknown) (.ref C_YardError) = some true)
    (ne_x_Unknown_YardError : (Value.ref C_Unknown == Value.ref C_YardError) = false)
    (xa_NoStep : PySem.W.findIn K (.ref C_NoStep) "__class__" = some (some (.builtin "object.__class__")))
    (xm_NoStep : PySem.W.mroIn K C_NoStep (.type "object") = some true)
    (sx_NoStep_Repeated : PySem.W.subIn K (.ref C_NoStep) (.ref C_Repeated) = some false)
    (ne_x_NoStep_Repeated : (Value.ref C_NoStep == Value.ref C_Repeated) = false)
    (sx_NoStep_Unknown : PySem.W.subIn K (.ref C_NoStep) (.ref C_Unknown) = some false)
    (ne_x_NoStep_Unknown : (Value.ref C_NoStep == Value.ref C_Unknown) = false)
    (sx_NoStep_BadCount : PySem.W.subIn K (.ref C_NoStep) (.ref C_BadCount) = some false)
    (ne_x_NoStep_BadCount : (Value.ref C_NoStep == Value.ref C_BadCount) = false)
    (sx_NoStep_Lacking : PySem.W.subIn K (.ref C_NoStep) (.ref C_Lacking) = some false)
    (ne_x_NoStep_Lacking : (Value.ref C_NoStep == Value.ref C_Lacking) = false)
    (sx_NoStep_Shut : PySem.W.subIn K (.ref C_NoStep) (.ref C_Shut) = some false)
    (ne_x_NoStep_Shut : (Value.ref C_NoStep == Value.ref C_Shut) = false)
    (sx_NoStep_Unmet : PySem.W.subIn K (.ref C_NoStep) (.ref C_Unmet) = some false)
    (ne_x_NoStep_Unmet : (Value.ref C_NoStep == Value.ref C_Unmet) = false)
    (sx_NoStep_Never : PySem.W.subIn K (.ref C_NoStep) (.ref C_Never) = some false)
    (ne_x_NoStep_Never : (Value.ref C_NoStep == Value.ref C_Never) = false)
    (sx_NoStep_YardError : PySem.W.subIn K (.ref C_NoStep) (.ref C_YardError) = some true)
    (ne_x_NoStep_YardError : (Value.ref C_NoStep == Value.ref C_YardError) = false)
    (xa_BadCount : PySem.W.findIn K (.ref C_BadCount) "__class__" = some (some (.builtin "object.__class__")))
    (xm_BadCount : PySem.W.mroIn K C_BadCount (.type "object") = some true)
    (sx_BadCount_Repeated : PySem.W.subIn K (.ref C_BadCount) (.ref C_Repeated) = some false)
    (ne_x_BadCount_Repeated : (Value.ref C_BadCount == Value.ref C_Repeated) = false)
    (sx_BadCount_Unknown : PySem.W.subIn K (.ref C_BadCount) (.ref C_Unknown) = some false)
    (ne_x_BadCount_Unknown : (Value.ref C_BadCount == Value.ref C_Unknown) = false)
    (sx_BadCount_NoStep : PySem.W.subIn K (.ref C_BadCount) (.ref C_NoStep) = some false)
    (ne_x_BadCount_NoStep : (Value.ref C_BadCount == Value.ref C_NoStep) = false)
    (sx_BadCount_Lacking : PySem.W.subIn K (.ref C_BadCount) (.ref C_Lacking) = some false)
    (ne_x_BadCount_Lacking : (Value.ref C_BadCount == Value.ref C_Lacking) = false)
    (sx_BadCount_Shut : PySem.W.subIn K (.ref C_BadCount) (.ref C_Shut) = some false)
    (ne_x_BadCount_Shut : (Value.ref C_BadCount == Value.ref C_Shut) = false)
    (sx_BadCount_Unmet : PySem.W.subIn K (.ref C_BadCount) (.ref C_Unmet) = some false)
    (ne_x_BadCount_Unmet : (Value.ref C_BadCount == Value.ref C_Unmet) = false)
    (sx_BadCount_Never : PySem.W.subIn K (.ref C_BadCount) (.ref C_Never) = some false)
    (ne_x_BadCount_Never : (Value.ref C_BadCount == Value.ref C_Never) = false)
    (sx_BadCount_YardError : PySem.W.subIn K (.ref C_BadCount) (.ref C_YardError) = some true)
    (ne_x_BadCount_YardError : (Value.ref C_BadCount == Value.ref C_YardError) = false)
    (xa_Lacking : PySem.W.findIn K (.ref C_Lacking) "__class__" = some (some (.builtin "object.__class__")))
    (xm_Lacking : PySem.W.mroIn K C_Lacking (.type "object") = some true)
    (sx_Lacking_Repeated : PySem.W.subIn K (.ref C_Lacking) (.ref C_Repeated) = some false)
    (ne_x_Lacking_Repeated : (Value.ref C_Lacking == Value.ref C_Repeated) = false)
    (sx_Lacking_Unknown : PySem.W.subIn K (.ref C_Lacking) (.ref C_Unknown) = some false)
    (ne_x_Lacking_Unknown : (Value.ref C_Lacking == Value.ref C_Unknown) = false)
    (sx_Lacking_NoStep : PySem.W.subIn K (.ref C_Lacking) (.ref C_NoStep) = some false)
    (ne_x_Lacking_NoStep : (Value.ref C_Lacking == Value.ref C_NoStep) = false)
    (sx_Lacking_BadCount : PySem.W.subIn K (.ref C_Lacking) (.ref C_BadCount) = some false)
    (ne_x_Lacking_BadCount : (Value.ref C_Lacking == Value.ref C_BadCount) = false)
    (sx_Lacking_Shut : PySem.W.subIn K (.ref C_Lacking) (.ref C_Shut) = some false)
    (ne_x_Lacking_Shut : (Value.ref C_Lacking == Value.ref C_Shut) = false)
    (sx_Lacking_Unmet : PySem.W.subIn K (.ref C_Lacking) (.ref C_Unmet) = some false)
    (ne_x_Lacking_Unmet : (Value.ref C_Lacking == Value.ref C_Unmet) = false)
    (sx_Lacking_Never : PySem.W.subIn K (.ref C_Lacking) (.ref C_Never) = some false)
    (ne_x_Lacking_Never : (Value.ref C_Lacking == Value.ref C_Never) = false)
    (sx_Lacking_YardError : PySem.W.subIn K (.ref C_Lacking) (.ref C_YardError) = some true)
    (ne_x_Lacking_YardError : (Value.ref C_Lacking == Value.ref C_YardError) = false)
    (xa_Shut : PySem.W.findIn K (.ref C_Shut) "__class__" = some (some (.builtin "object.__class__")))
    (xm_Shut : PySem.W.mroIn K C_Shut (.type "object") = some true)
    (sx_Shut_Repeated : PySem.W.subIn K (.ref C_Shut) (.ref C_Repeated) = some false)
    (ne_x_Shut_Repeated : (Value.ref C_Shut == Value.ref C_Repeated) = false)
    (sx_Shut_Unknown : PySem.W.subIn K (.ref C_Shut) (.ref C_Unknown) = some false)
    (ne_x_Shut_Unknown : (Value.ref C_Shut == Value.ref C_Unknown) = false)
    (sx_Shut_NoStep : PySem.W.subIn K (.ref C_Shut) (.ref C_NoStep) = some false)
    (ne_x_Shut_NoStep : (Value.ref C_Shut == Value.ref C_NoStep) = false)
    (sx_Shut_BadCount : PySem.W.subIn K (.ref C_Shut) (.ref C_BadCount) = some false)
    (ne_x_Shut_BadCount : (Value.ref C_Shut == Value.ref C_BadCount) = false)
    (sx_Shut_Lacking : PySem.W.subIn K (.ref C_Shut) (.ref C_Lacking) = some false)
    (ne_x_Shut_Lacking : (Value.ref C_Shut == Value.ref C_Lacking) = false)
    (sx_Shut_Unmet : PySem.W.subIn K (.ref C_Shut) (.ref C_Unmet) = some false)
    (ne_x_Shut_Unmet : (Value.ref C_Shut == Value.ref C_Unmet) = false)
    (sx_Shut_Never : PySem.W.subIn K (.ref C_Shut) (.ref C_Never) = some false)
    (ne_x_Shut_Never : (Value.ref C_Shut == Value.ref C_Never) = false)
    (sx_Shut_YardError : PySem.W.subIn K (.ref C_Shut) (.ref C_YardError) = some true)
    (ne_x_Shut_YardError : (Value.ref C_Shut == Value.ref C_YardError) = false)
    (xa_Unmet : PySem.W.findIn K (.ref C_Unmet) "__class__" = some (some (.builtin "object.__class__")))
    (xm_Unmet : PySem.W.mroIn K C_Unmet (.type "object") = some true)
    (sx_Unmet_Repeated : PySem.W.subIn K (.ref C_Unmet) (.ref C_Repeated) = some false)
    (ne_x_Unmet_Repeated : (Value.ref C_Unmet == Value.ref C_Repeated) = false)
    (sx_Unmet_Unknown : PySem.W.subIn K (.ref C_Unmet) (.ref C_Unknown) = some false)
    (ne_x_Unmet_Unknown : (Value.ref C_Unmet == Value.ref C_Unknown) = false)
    (sx_Unmet_NoStep : PySem.W.subIn K (.ref C_Unmet) (.ref C_NoStep) = some false)
    (ne_x_Unmet_NoStep : (Value.ref C_Unmet == Value.ref C_NoStep) = false)
    (sx_Unmet_BadCount : PySem.W.subIn K (.ref C_Unmet) (.ref C_BadCount) = some false)
    (ne_x_Unmet_BadCount : (Value.ref C_Unmet == Value.ref C_BadCount) = false)
    (sx_Unmet_Lacking : PySem.W.subIn K (.ref C_Unmet) (.ref C_Lacking) = some false)
    (ne_x_Unmet_Lacking : (Value.ref C_Unmet == Value.ref C_Lacking) = false)
    (sx_Unmet_Shut : PySem.W.subIn K (.ref C_Unmet) (.ref C_Shut) = some false)
    (ne_x_Unmet_Shut : (Value.ref C_Unmet == Value.ref C_Shut) = false)
    (sx_Unmet_Never : PySem.W.subIn K (.ref C_Unmet) (.ref C_Never) = some false)
    (ne_x_Unmet_Never : (Value.ref C_Unmet == Value.ref C_Never) = false)
    (sx_Unmet_YardError : PySem.W.subIn K (.ref C_Unmet) (.ref C_YardError) = some true)
    (ne_x_Unmet_YardError : (Value.ref C_Unmet == Value.ref C_YardError) = false)
    (xa_Never : PySem.W.findIn K (.ref C_Never) "__class__" = some (some (.builtin "object.__class__")))
    (xm_Never : PySem.W.mroIn K C_Never (.type "object") = some true)
    (sx_Never_Repeated : PySem.W.subIn K (.ref C_Never) (.ref C_Repeated) = some false)
    (ne_x_Never_Repeated : (Value.ref C_Never == Value.ref C_Repeated) = false)
    (sx_Never_Unknown : PySem.W.subIn K (.ref C_Never) (.ref C_Unknown) = some false)
    (ne_x_Never_Unknown : (Value.ref C_Never == Value.ref C_Unknown) = false)
    (sx_Never_NoStep : PySem.W.subIn K (.ref C_Never) (.ref C_NoStep) = some false)
    (ne_x_Never_NoStep : (Value.ref C_Never == Value.ref C_NoStep) = false)
    (sx_Never_BadCount : PySem.W.subIn K (.ref C_Never) (.ref C_BadCount) = some false)
    (ne_x_Never_BadCount : (Value.ref C_Never == Value.ref C_BadCount) = false)
    (sx_Never_Lacking : PySem.W.subIn K (.ref C_Never) (.ref C_Lacking) = some false)
    (ne_x_Never_Lacking : (Value.ref C_Never == Value.ref C_Lacking) = false)
    (sx_Never_Shut : PySem.W.subIn K (.ref C_Never) (.ref C_Shut) = some false)
    (ne_x_Never_Shut : (Value.ref C_Never == Value.ref C_Shut) = false)
    (sx_Never_Unmet : PySem.W.subIn K (.ref C_Never) (.ref C_Unmet) = some false)
    (ne_x_Never_Unmet : (Value.ref C_Never == Value.ref C_Unmet) = false)
    (sx_Never_YardError : PySem.W.subIn K (.ref C_Never) (.ref C_YardError) = some true)
    (ne_x_Never_YardError : (Value.ref C_Never == Value.ref C_YardError) = false)
    (stat : PySem.W.nsIn K cStatics "thirdparty.any" = some none)
    (a_1 : PySem.W.findIn K (.ref C_Repeated) "__init__" = some (some (.ref f_Repeated_init)))
    (ti_Repeated_init : PySem.W.typeIn K (.ref f_Repeated_init) = some (.type "function"))
    (l_1 : K.lookup f_Repeated_init = some ⟨oc_1, od_1, .func (PySem.W.ksFn "__init__" "Repeated.__init__" (defArgs s_Repeated_init) (defBody s_Repeated_init) (defScope s_Repeated_init) .none kV_1 dc_1 pm_1 an_1 (.ref cda_Repeated_init) ct_1 cc_Repeated_init), sl_1⟩)
    (c_1 : PySem.W.codeIn K (.ref cda_Repeated_init) "Repeated.__init__" = true)
    (cd1_Repeated_init : K.lookup cda_Repeated_init = some ⟨ccl_Repeated_init, cdd_Repeated_init, .fields cvs_Repeated_init, ccs_Repeated_init⟩)
    (cd2_Repeated_init : cvs_Repeated_init[2]? = some (.str file_Repeated_init tf_Repeated_init))
    (cd3_Repeated_init : ((l.prog.main.file : Str) == file_Repeated_init) = true)
    (cl1_Repeated_init : K.lookup cc_Repeated_init = some ⟨cl_Repeated_init, cld_Repeated_init, .cell (some (.ref C_Repeated)), csl_Repeated_init⟩)
    (a_2 : PySem.W.findIn K (.ref C_Unknown) "__init__" = some (some (.ref f_Unknown_init)))
    (ti_Unknown_init : PySem.W.typeIn K (.ref f_Unknown_init) = some (.type "function"))
    (l_2 : K.lookup f_Unknown_init = some ⟨oc_2, od_2, .func (PySem.W.ksFn "__init__" "Unknown.__init__" (defArgs s_Unknown_init) (defBody s_Unknown_init) (defScope s_Unknown_init) .none kV_2 dc_2 pm_2 an_2 (.ref cda_Unknown_init) ct_2 cc_Unknown_init), sl_2⟩)
    (c_2 : PySem.W.codeIn K (.ref cda_Unknown_init) "Unknown.__init__" = true)
    (cd1_Unknown_init : K.lookup cda_Unknown_init = some ⟨ccl_Unknown_init, cdd_Unknown_init, .fields cvs_Unknown_init, ccs_Unknown_init⟩)
    (cd2_Unknown_init : cvs_Unknown_init[2]? = some (.str file_Unknown_init tf_Unknown_init))
    (cd3_Unknown_init : ((l.prog.main.file : Str) == file_Unknown_init) = true)
    (cl1_Unknown_init : K.lookup cc_Unknown_init = some ⟨cl_Unknown_init, cld_Unknown_init, .cell (some (.ref C_Unknown)), csl_Unknown_init⟩)
    (a_5 : PySem.W.findIn K (.ref C_NoStep) "__init__" = some (some (.ref f_NoStep_init)))
    (ti_NoStep_init : PySem.W.typeIn K (.ref f_NoStep_init) = some (.type "function"))
    (l_5 : K.lookup f_NoStep_init = some ⟨oc_5, od_5, .func (PySem.W.ksFn "__init__" "NoStep.__init__" (defArgs s_NoStep_init) (defBody s_NoStep_init) (defScope s_NoStep_init) .none kV_5 dc_5 pm_5 an_5 (.ref cda_NoStep_init) ct_5 cc_NoStep_init), sl_5⟩)
    (c_5 : PySem.W.codeIn K (.ref cda_NoStep_init) "NoStep.__init__" = true)
    (cd1_NoStep_init : K.lookup cda_NoStep_init = some ⟨ccl_NoStep_init, cdd_NoStep_init, .fields cvs_NoStep_init, ccs_NoStep_init⟩)
    (cd2_NoStep_init : cvs_NoStep_init[2]? = some (.str file_NoStep_init tf_NoStep_init))
    (cd3_NoStep_init : ((l.prog.main.file : Str) == file_NoStep_init) = true)
    (cl1_NoStep_init : K.lookup cc_NoStep_init = some ⟨cl_NoStep_init, cld_NoStep_init, .cell (some (.ref C_NoStep)), csl_NoStep_init⟩)
    (a_0 : PySem.W.findIn K (.ref C_BadCount) "__init__" = some (some (.ref f_BadCount_init)))
    (ti_BadCount_init : PySem.W.typeIn K (.ref f_BadCount_init) = some (.type "function"))
    (l_0 : K.lookup f_BadCount_init = some ⟨oc_0, od_0, .func (PySem.W.ksFn "__init__" "BadCount.__init__" (defArgs s_BadCount_init) (defBody s_BadCount_init) (defScope s_BadCount_init) .none kV_0 dc_0 pm_0 an_0 (.ref cda_BadCount_init) ct_0 cc_BadCount_init), sl_0⟩)
    (c_0 : PySem.W.codeIn K (.ref cda_BadCount_init) "BadCount.__init__" = true)
    (cd1_BadCount_init : K.lookup cda_BadCount_init = some ⟨ccl_BadCount_init, cdd_BadCount_init, .fields cvs_BadCount_init, ccs_BadCount_init⟩)
    (cd2_BadCount_init : cvs_BadCount_init[2]? = some (.str file_BadCount_init tf_BadCount_init))
    (cd3_BadCount_init : ((l.prog.main.file : Str) == file_BadCount_init) = true)
    (cl1_BadCount_init : K.lookup cc_BadCount_init = some ⟨cl_BadCount_init, cld_BadCount_init, .cell (some (.ref C_BadCount)), csl_BadCount_init⟩)
    (a_3 : PySem.W.findIn K (.ref C_Lacking) "__init__" = some (some (.ref f_Lacking_init)))
    (ti_Lacking_init : PySem.W.typeIn K (.ref f_Lacking_init) = some (.type "function"))
    (l_3 : K.lookup f_Lacking_init = some ⟨oc_3, od_3, .func (PySem.W.ksFn "__init__" "Lacking.__init__" (defArgs s_Lacking_init) (defBody s_Lacking_init) (defScope s_Lacking_init) .none kV_3 dc_3 pm_3 an_3 (.ref cda_Lacking_init) ct_3 cc_Lacking_init), sl_3⟩)
    (c_3 : PySem.W.codeIn K (.ref cda_Lacking_init) "Lacking.__init__" = true)
    (cd1_Lacking_init : K.lookup cda_Lacking_init = some ⟨ccl_Lacking_init, cdd_Lacking_init, .fields cvs_Lacking_init, ccs_Lacking_init⟩)
    (cd2_Lacking_init : cvs_Lacking_init[2]? = some (.str file_Lacking_init tf_Lacking_init))
    (cd3_Lacking_init : ((l.prog.main.file : Str) == file_Lacking_init) = true)
    (cl1_Lacking_init : K.lookup cc_Lacking_init = some ⟨cl_Lacking_init, cld_Lacking_init, .cell (some (.ref C_Lacking)), csl_Lacking_init⟩)
    (a_8 : PySem.W.findIn K (.ref C_Shut) "__init__" = some (some (.ref f_Shut_init)))
    (ti_Shut_init : PySem.W.typeIn K (.ref f_Shut_init) = some (.type "function"))
    (l_8 : K.lookup f_Shut_init = some ⟨oc_8, od_8, .func (PySem.W.ksFn "__init__" "Shut.__init__" (defArgs s_Shut_init) (defBody s_Shut_init) (defScope s_Shut_init) .none kV_8 dc_8 pm_8 an_8 (.ref cda_Shut_init) ct_8 cc_Shut_init), sl_8⟩)
    (c_8 : PySem.W.codeIn K (.ref cda_Shut_init) "Shut.__init__" = true)
    (cd1_Shut_init : K.lookup cda_Shut_init = some ⟨ccl_Shut_init, cdd_Shut_init, .fields cvs_Shut_init, ccs_Shut_init⟩)
    (cd2_Shut_init : cvs_Shut_init[2]? = some (.str file_Shut_init tf_Shut_init))
    (cd3_Shut_init : ((l.prog.main.file : Str) == file_Shut_init) = true)
    (cl1_Shut_init : K.lookup cc_Shut_init = some ⟨cl_Shut_init, cld_Shut_init, .cell (some (.ref C_Shut)), csl_Shut_init⟩)
    (a_6 : PySem.W.findIn K (.ref C_Unmet) "__init__" = some (some (.ref f_Unmet_init)))
    (ti_Unmet_init : PySem.W.typeIn K (.ref f_Unmet_init) = some (.type "function"))
    (l_6 : K.lookup f_Unmet_init = some ⟨oc_6, od_6, .func (PySem.W.ksFn "__init__" "Unmet.__init__" (defArgs s_Unmet_init) (defBody s_Unmet_init) (defScope s_Unmet_init) .none kV_6 dc_6 pm_6 an_6 (.ref cda_Unmet_init) ct_6 cc_Unmet_init), sl_6⟩)
    (c_6 : PySem.W.codeIn K (.ref cda_Unmet_init) "Unmet.__init__" = true)
    (cd1_Unmet_init : K.lookup cda_Unmet_init = some ⟨ccl_Unmet_init, cdd_Unmet_init, .fields cvs_Unmet_init, ccs_Unmet_init⟩)
    (cd2_Unmet_init : cvs_Unmet_init[2]? = some (.str file_Unmet_init tf_Unmet_init))
    (cd3_Unmet_init : ((l.prog.main.file : Str) == file_Unmet_init) = true)
    (cl1_Unmet_init : K.lookup cc_Unmet_init = some ⟨cl_Unmet_init, cld_Unmet_init, .cell (some (.ref C_Unmet)), csl_Unmet_init⟩)
    (a_7 : PySem.W.findIn K (.ref C_Never) "__init__" = some (some (.ref f_Never_init)))
    (ti_Never_init : PySem.W.typeIn K (.ref f_Never_init) = some (.type "function"))
    (l_7 : K.lookup f_Never_init = some ⟨oc_7, od_7, .func (PySem.W.ksFn "__init__" "Never.__init__" (defArgs s_Never_init) (defBody s_Never_init) (defScope s_Never_init) .none kV_7 dc_7 pm_7 an_7 (.ref cda_Never_init) ct_7 cc_Never_init), sl_7⟩)
    (c_7 : PySem.W.codeIn K (.ref cda_Never_init) "Never.__init__" = true)
    (cd1_Never_init : K.lookup cda_Never_init = some ⟨ccl_Never_init, cdd_Never_init, .fields cvs_Never_init, ccs_Never_init⟩)
    (cd2_Never_init : cvs_Never_init[2]? = some (.str file_Never_init tf_Never_init))
    (cd3_Never_init : ((l.prog.main.file : Str) == file_Never_init) = true)
    (cl1_Never_init : K.lookup cc_Never_init = some ⟨cl_Never_init, cld_Never_init, .cell (some (.ref C_Never)), csl_Never_init⟩)
    (topS : (l.prog.main.scope.names.lookup ("super" : Str)).isSome = false)
    (a_9 : PySem.W.findIn K (.ref C_Hold) "__init__" = some (some (.ref f_Hold_init)))
    (i_9 : PySem.W.isFn K (.ref f_Hold_init) = true)
    (l_9 : K.lookup f_Hold_init = some ⟨oc_9, od_9, .func (PySem.W.fnOf "__init__" "Hold.__init__" (defArgs s_Hold_init) (defBody s_Hold_init) (defScope s_Hold_init) (.ref t_Hold_init) kV_9 dc_9 pm_9 an_9 cd_9 ct_9), sl_9⟩)
    (c_9 : PySem.W.codeIn K cd_9 "Hold.__init__" = true)
    (k_9 : PySem.W.keepIn K (.ref f_Hold_init) = true)
    (t1_Hold_init : K.lookup t_Hold_init = some ⟨ct1_Hold_init, odt_Hold_init, .seq #[.ref e_Hold_init] nt_Hold_init, slt_Hold_init⟩)
    (e1_Hold_init : K.lookup e_Hold_init = some ⟨.type "tuple", ode_Hold_init, .seq #[] ne_Hold_init, sle_Hold_init⟩)
    (a_13 : PySem.W.nsIn K mainGlobals "_law_pool" = some (some (.ref f_law_pool)))
    (l_13 : K.lookup f_law_pool = some ⟨oc_13, od_13, .func (PySem.W.fnOf "_law_pool" "_law_pool" (defArgs s_law_pool) (defBody s_law_pool) (defScope s_law_pool) .none kV_13 dc_13 pm_13 an_13 cd_13 ct_13), sl_13⟩)
    (c_13 : PySem.W.codeIn K cd_13 "_law_pool" = true)
    (k_13 : PySem.W.keepIn K (.ref f_law_pool) = true)
    (a_10 : PySem.W.nsIn K mainGlobals "_law_take" = some (some (.ref f_law_take)))
    (l_10 : K.lookup f_law_take = some ⟨oc_10, od_10, .func (PySem.W.fnOf "_law_take" "_law_take" (defArgs s_law_take) (defBody s_law_take) (defScope s_law_take) .none kV_10 dc_10 pm_10 an_10 cd_10 ct_10), sl_10⟩)
    (c_10 : PySem.W.codeIn K cd_10 "_law_take" = true)
    (k_10 : PySem.W.keepIn K (.ref f_law_take) = true)
    (a_11 : PySem.W.nsIn K mainGlobals "_law_base" = some (some (.ref f_law_base)))
    (l_11 : K.lookup f_law_base = some ⟨oc_11, od_11, .func (PySem.W.fnOf "_law_base" "_law_base" (defArgs s_law_base) (defBody s_law_base) (defScope s_law_base) .none kV_11 dc_11 pm_11 an_11 cd_11 ct_11), sl_11⟩)
    (c_11 : PySem.W.codeIn K cd_11 "_law_base" = true)
    (k_11 : PySem.W.keepIn K (.ref f_law_base) = true)
    (a_12 : PySem.W.nsIn K mainGlobals "_law_name" = some (some (.ref f_law_name)))
    (l_12 : K.lookup f_law_name = some ⟨oc_12, od_12, .func (PySem.W.fnOf "_law_name" "_law_name" (defArgs s_law_name) (defBody s_law_name) (defScope s_law_name) .none kV_12 dc_12 pm_12 an_12 cd_12 ct_12), sl_12⟩)
    (c_12 : PySem.W.codeIn K cd_12 "_law_name" = true)
    (k_12 : PySem.W.keepIn K (.ref f_law_name) = true)
    (a_4 : PySem.W.nsIn K mainGlobals "_law_is_only" = some (some (.ref f_law_is_only)))
    (l_4 : K.lookup f_law_is_only = some ⟨oc_4, od_4, .func (PySem.W.fnOf "_law_is_only" "_law_is_only" (defArgs s_law_is_only) (defBody s_law_is_only) (defScope s_law_is_only) .none kV_4 dc_4 pm_4 an_4 cd_4 ct_4), sl_4⟩)
    (c_4 : PySem.W.codeIn K cd_4 "_law_is_only" = true)
    (k_4 : PySem.W.keepIn K (.ref f_law_is_only) = true)
    (a_law : PySem.W.nsIn K mainGlobals "law" = some (some (.ref f_law)))
    (l_14 : K.lookup f_law = some ⟨oc_14, od_14, .func (PySem.W.fnOf "law" "law" (defArgs s_law) (defBody s_law) (defScope s_law) .none kV_14 dc_14 pm_14 an_14 cd_14 ct_14), sl_14⟩)
    (c_14 : PySem.W.codeIn K cd_14 "law" = true)
    (k_14 : PySem.W.keepIn K (.ref f_law) = true)
    (pg_Hold : PySem.W.plainGet K C_Hold Str.empty = true)
    (hd_Hold : PySem.W.hasDictIn K C_Hold = true)
    (po_Hold : PySem.W.plainOver K C_Hold = true)
    (sa_Hold : PySem.W.findIn K (.ref C_Hold) "__setattr__" = some (some (.builtin "object.__setattr__")))
    (mk_Hold : PySem.W.makesIn K C_Hold = true)
    (kc_Hold : PySem.W.keepIn K (.ref C_Hold) = true)
    (ha_Hold : PySem.W.findIn K (.ref C_Hold) "__class__" = some (some (.builtin "object.__class__")))
    (hm_Hold : PySem.W.mroIn K C_Hold (.type "object") = some true)
    (sf_Hold : PySem.W.selfFirst K C_Hold = true)
    (nf_Hold : PySem.W.notFirst K C_Hold (.ref C_Hold) = true)
    (nfl_Hold : PySem.W.notFirst K C_Hold (.type "list") = true)
    (ic_Hold : PySem.W.isClsIn K C_Hold = true)
    (ty_Hold : PySem.W.typeIn K (.ref C_Hold) = some (.type "type"))
    (sl_Hold : PySem.W.subIn K (.type "list") (.ref C_Hold) = some false)
    (na_Hold_rows : PySem.W.findIn K (.ref C_Hold) "rows" = some none)
    (hn : PySem.W.specialIn K (.builtin "object.__class__") "__get__" = some (some (.builtin "getset_descriptor.__get__")))
    (ht : PySem.W.takesIn K (.builtin "object.__class__") = some true)
    (z_len : PySem.W.nsIn K mainGlobals "len" = some none)
    (z_all : PySem.W.nsIn K mainGlobals "all" = some none)
    (z_list : PySem.W.nsIn K mainGlobals "list" = some none)
    (z_int : PySem.W.nsIn K mainGlobals "int" = some none)
    (z_range : PySem.W.nsIn K mainGlobals "range" = some none)
    (z_isinstance : PySem.W.nsIn K mainGlobals "isinstance" = some none)
    (z_iter : PySem.W.nsIn K mainGlobals "iter" = some none)
    (z_bool : PySem.W.nsIn K mainGlobals "bool" = some none)
    (z_super : PySem.W.nsIn K mainGlobals "super" = some none)
    (z_ValueError : PySem.W.nsIn K mainGlobals "ValueError" = some none)
   , ∃ fd : FuncData, (∀ (s : Shared) (v : Value), BindsTo s fd ⟨[v], []⟩ [("_law_script", v)]) ∧ ∀ base : Heap, K.In base → base.Ns mainGlobals mg → FnOk l.prog w K mg base CX0 9 fa fd ["_law_script"] (spLaw K)
theorem walk {l : PySem.W.OpenLaw} {q : Program} {loose : List Str} {XP : (Str → Option Value) → Heap → Prop} {YP : World → Heap → Prop} {d : DefRec} {K : Params → PySem.W.Frag} (hn : l.most = some 63) (hdf : d.params.defaults = [])
    (hY : ∀ (w : World) (h : Heap), YP w h → (K w.params).In h)
    (F : ∀ (w : World) (mg : Str → Option Value) (fa : Addr) (h : Heap), (K w.params).In h → h.Ns mainGlobals mg → mg d.name = some (.ref fa) →
      ∃ fd : FuncData, (∀ (s : Shared) (u : Value), BindsTo s fd ⟨[u], []⟩ [("_law_script", u)]) ∧ ∀ base : Heap, (K w.params).In base → base.Ns mainGlobals mg → FnOk l.prog w (K w.params) mg base CX0 9 fa fd ["_law_script"] (spLaw (K w.params))) :
    PySem.W.WalkO q loose XP YP l.row.toRowW d [] (fun f vs => PySem.call f vs) :=
  L2.walk_of (n := 63) (k := 9) (x := "_law_script") (CX := fun _ => CX0) (sp := fun w => spLaw (K w.params)) hn (by decide) hdf ⟨rfl, by decide, by decide⟩ hY F (fun _ _ a ns hl _ hS => ⟨a, ns, rfl, hS, hl, fun _ => rfl⟩) fun _ _ _ _ _ z => z
theorem walkL {l : PySem.W.OpenLaw} {q : Program} {loose : List Str} {XP : (Str → Option Value) → Heap → Prop} {YP : World → Heap → Prop} {d : DefRec} {K : Params → PySem.W.Frag} (hn : l.most = some 63) (hdf : d.params.defaults = [])
    (hY : ∀ (w : World) (h : Heap), YP w h → (K w.params).In h)
    (F : LawOk → ∀ (w : World) (mg : Str → Option Value) (fa : Addr) (h : Heap), (K w.params).In h → h.Ns mainGlobals mg → mg d.name = some (.ref fa) →
      ∃ fd : FuncData, (∀ (s : Shared) (u : Value), BindsTo s fd ⟨[u], []⟩ [("_law_script", u)]) ∧ ∀ base : Heap, (K w.params).In base → base.Ns mainGlobals mg → FnOk l.prog w (K w.params) mg base CX0 9 fa fd ["_law_script"] (spLaw (K w.params))) :
    PySem.W.WalkO q loose XP (fun w h => YP w h ∧ LawOk) l.row.toRowW d [] (fun f vs => PySem.call f vs) := by
  intro w s₀ s₁ mg mb G Y
  exact walk hn hdf hY (F Y.2) w s₀ s₁ mg mb G Y.1
end K01
namespace GH
open PySem PySem.W PyProof.Rows
def rowsOf : List Obj → List Obj → List (List Obj)
  | [], _ => []
  | _ :: f, l => match l with
    | [] => []
    | o :: r => (o :: r).take 32 :: rowsOf f ((o :: r).drop 32)
def nth {α : Type} : List α → Nat → Option α
  | [], _ => none
  | x :: l, i => match i with
    | 0 => some x
    | j + 1 => nth l j
def inRow (i : Nat) : Option (List Obj) → Option Obj
  | none => none
  | some r => nth r i
def alv : Option Obj → Option Obj
  | some ⟨_, _, .freed, _⟩ => none
  | o => o
def lookAt (c : List (List Obj)) (a : Nat) : Option Obj := alv (inRow (Nat.mod a 32) (nth c (Nat.div a 32)))
def lookAll (c : List (List Obj)) : List Nat → List (Option Obj)
  | [] => []
  | a :: r => lookAt c a :: lookAll c r
theorem nth_eq {α : Type} : ∀ (l : List α) (i : Nat), nth l i = l[i]?
  | [], _ => by simp [nth]
  | x :: l, 0 => rfl
  | x :: l, j + 1 => by
    show nth l j = _
    rw [nth_eq l j]
    rfl
theorem rows_at : ∀ (f l : List Obj) (i : Nat), l.length ≤ 32 * f.length → inRow (Nat.mod i 32) (nth (rowsOf f l) (Nat.div i 32)) = l[i]?
  | [], l, i, h => by
    have : l = [] := List.length_eq_zero_iff.mp (by simpa using h)
    subst this
    simp [rowsOf, nth, inRow]
  | _ :: f, [], i, _ => by simp [rowsOf, nth, inRow]
  | _ :: f, o :: r, i, h => by
    show inRow (i % 32) (nth ((o :: r).take 32 :: rowsOf f ((o :: r).drop 32)) (i / 32)) = _
    by_cases hi : i < 32
    · rw [show i / 32 = 0 by omega, show i % 32 = i by omega]
      show nth ((o :: r).take 32) i = _
      rw [nth_eq, List.getElem?_take]
      simp [hi]
    · obtain ⟨j, rfl⟩ : ∃ j, i = j + 32 := ⟨i - 32, by omega⟩
      have e1 : (j + 32) / 32 = j / 32 + 1 := by omega
      have e2 : (j + 32) % 32 = j % 32 := by omega
      rw [e1, e2]
      show inRow (j % 32) (nth (rowsOf f ((o :: r).drop 32)) (j / 32)) = _
      have hl : ((o :: r).drop 32).length ≤ 32 * f.length := by
        rw [List.length_drop]
        rw [List.length_cons (as := f)] at h
        omega
      have := rows_at f ((o :: r).drop 32) j hl
      rw [show inRow (j % 32) (nth (rowsOf f ((o :: r).drop 32)) (j / 32)) = inRow (Nat.mod j 32) (nth (rowsOf f ((o :: r).drop 32)) (Nat.div j 32)) from rfl, this, List.getElem?_drop, Nat.add_comm]
def seen (as : List Nat) (h : Heap) : List (Option Obj) := lookAll (rowsOf h.objs.toList h.objs.toList) as
theorem look_eq (h : Heap) (a : Nat) : lookAt (rowsOf h.objs.toList h.objs.toList) a = h.get? a := by
  unfold lookAt
  rw [rows_at _ _ _ (by omega)]
  unfold Heap.get?
  rw [Array.getElem?_toList]
  rfl
theorem seen_eq (h : Heap) : ∀ as : List Nat, seen as h = as.map h.get?
  | [] => rfl
  | a :: r => by
    show lookAt (rowsOf h.objs.toList h.objs.toList) a :: seen r h = _
    rw [look_eq, seen_eq h r]
    rfl
def hook (K : Params → Frag) (as : List Nat) (e : ∀ P, as = (K P).map (·.1)) : Hook :=
  ⟨List (Option Obj), fun s => seen as s.heap, fun w => (K w.params).map fun p => some p.2, fun w h => (K w.params).In h, fun w s x => Frag.in_of (e _) ((seen_eq s.heap as).symm.trans x), fun _ _ _ x k => Frag.In.keeps x k⟩
theorem kin {K : Params → Frag} {as : List Nat} {e : ∀ P, as = (K P).map (·.1)} {w : World} {h : Heap} (Y : (hook K as e).says w h) : (K w.params).In h := Y
end GH
section
open PySem PySem.W PyProof.Rows
local macro_rules
  | `(tactic| o_head $H) => do
    let h := H.raw
    let h := if h.getKind == ``Lean.Parser.Term.paren then h[1] else h
    if h.getKind != ``Lean.Parser.Term.app then Lean.Macro.throwUnsupported
    if h[0].getId.eraseMacroScopes.getString! != "kHook" then Lean.Macro.throwUnsupported
    let a := h[1].getArgs
    let K : Lean.Term := ⟨a[0]!⟩
    let l : Lean.Term := ⟨a[1]!⟩
    let e : Lean.Term := ⟨a[2]!⟩
    `(tactic| o_head (GH.hook $K $l $e))
local macro_rules
  | `(tactic| refine $f:ident $args*) => do
    if args.size < 12 then Lean.Macro.throwUnsupported
    let y := (args[6]!).raw
    if y.getKind != ``Lean.Parser.Term.namedArgument then Lean.Macro.throwUnsupported
    if y[1].getId.eraseMacroScopes != `YP then Lean.Macro.throwUnsupported
    if y[3].getKind != ``Lean.Parser.Term.app then Lean.Macro.throwUnsupported
    let H : Lean.Term := ⟨y[3][1][0]⟩
    let says ← `(fun w h => PySem.W.Hook.says $H w h ∧ K01.LawOk)
    let of ← `((fun w s e => ⟨PySem.W.Hook.of $H w s e, by assumption⟩))
    let kp ← `((fun w h h' y k => ⟨PySem.W.Hook.keeps $H w h h' y.1 k, y.2⟩))
    let as := ((args.set! 6 ⟨y.setArg 3 says.raw⟩).set! 9 ⟨of.raw⟩).set! 10 ⟨kp.raw⟩
    `(tactic| refine $f:ident $as*)
set_option maxRecDepth 100000 in
set_option maxHeartbeats 0 in
theorem K01.early (hlaw : K01.LawOk) : PySem.Challenge.rw_soundyard_k01_errors_and_fields.Holds := by
  w_on; o_law; k_head; (case hw => w_witness2)
  k_fill
  refine K01.walkL (l := PySem.Challenge.rw_soundyard_k01_errors_and_fields) rfl rfl (fun w h Y => GH.kin Y) ?F
  case F =>
    intro hlaw w mg fa h KX G hmg
    refine' hlaw KX G hmg ?aC_Hold ?aC_Repeated ?lC_Repeated ?rv_Repeated ?sa_Repeated ?eb_Repeated ?ty_Repeated ?kc_Repeated ?su_Repeated ?ve_Repeated ?mr_Repeated ?ga_Repeated ?gg_Repeated ?hd_Repeated ?na_Repeated_name ?aC_Unknown ?lC_Unknown ?rv_Unknown ?sa_Unknown ?eb_Unknown ?ty_Unknown ?kc_Unknown ?su_Unknown ?ve_Unknown ?mr_Unknown ?ga_Unknown ?gg_Unknown ?hd_Unknown ?na_Unknown_name ?aC_NoStep ?lC_NoStep ?rv_NoStep ?sa_NoStep ?eb_NoStep ?ty_NoStep ?kc_NoStep ?su_NoStep ?ve_NoStep ?mr_NoStep ?ga_NoStep ?gg_NoStep ?hd_NoStep ?na_NoStep_before ?na_NoStep_after ?aC_BadCount ?lC_BadCount ?rv_BadCount ?sa_BadCount ?eb_BadCount ?ty_BadCount ?kc_BadCount ?su_BadCount ?ve_BadCount ?mr_BadCount ?ga_BadCount ?gg_BadCount ?hd_BadCount ?na_BadCount_count ?aC_Lacking ?lC_Lacking ?rv_Lacking ?sa_Lacking ?eb_Lacking ?ty_Lacking ?kc_Lacking ?su_Lacking ?ve_Lacking ?mr_Lacking ?ga_Lacking ?gg_Lacking ?hd_Lacking ?na_Lacking_kind ?na_Lacking_standing ?aC_Shut ?lC_Shut ?rv_Shut ?sa_Shut ?eb_Shut ?ty_Shut ?kc_Shut ?su_Shut ?ve_Shut ?mr_Shut ?ga_Shut ?gg_Shut ?hd_Shut ?na_Shut_door ?aC_Unmet ?lC_Unmet ?rv_Unmet ?sa_Unmet ?eb_Unmet ?ty_Unmet ?kc_Unmet ?su_Unmet ?ve_Unmet ?mr_Unmet ?ga_Unmet ?gg_Unmet ?hd_Unmet ?na_Unmet_kind ?na_Unmet_standing ?na_Unmet_door ?aC_Never ?lC_Never ?rv_Never ?sa_Never ?eb_Never ?ty_Never ?kc_Never ?su_Never ?ve_Never ?mr_Never ?ga_Never ?gg_Never ?hd_Never ?na_Never_closed ?aC_YardError ?icx_YardError ?ty_YardError ?xa_Repeated ?xm_Repeated ?sx_Repeated_Unknown ?ne_x_Repeated_Unknown ?sx_Repeated_NoStep ?ne_x_Repeated_NoStep ?sx_Repeated_BadCount ?ne_x_Repeated_BadCount ?sx_Repeated_Lacking ?ne_x_Repeated_Lacking ?sx_Repeated_Shut ?ne_x_Repeated_Shut ?sx_Repeated_Unmet ?ne_x_Repeated_Unmet ?sx_Repeated_Never ?ne_x_Repeated_Never ?sx_Repeated_YardError ?ne_x_Repeated_YardError ?xa_Unknown ?xm_Unknown ?sx_Unknown_Repeated ?ne_x_Unknown_Repeated ?sx_Unknown_NoStep ?ne_x_Unknown_NoStep ?sx_Unknown_BadCount ?ne_x_Unknown_BadCount ?sx_Unknown_Lacking ?ne_x_Unknown_Lacking ?sx_Unknown_Shut ?ne_x_Unknown_Shut ?sx_Unknown_Unmet ?ne_x_Unknown_Unmet ?sx_Unknown_Never ?ne_x_Unknown_Never ?sx_Unknown_YardError ?ne_x_Unknown_YardError ?xa_NoStep ?xm_NoStep ?sx_NoStep_Repeated ?ne_x_NoStep_Repeated ?sx_NoStep_Unknown ?ne_x_NoStep_Unknown ?sx_NoStep_BadCount ?ne_x_NoStep_BadCount ?sx_NoStep_Lacking ?ne_x_NoStep_Lacking ?sx_NoStep_Shut ?ne_x_NoStep_Shut ?sx_NoStep_Unmet ?ne_x_NoStep_Unmet ?sx_NoStep_Never ?ne_x_NoStep_Never ?sx_NoStep_YardError ?ne_x_NoStep_YardError ?xa_BadCount ?xm_BadCount ?sx_BadCount_Repeated ?ne_x_BadCount_Repeated ?sx_BadCount_Unknown ?ne_x_BadCount_Unknown ?sx_BadCount_NoStep ?ne_x_BadCount_NoStep ?sx_BadCount_Lacking ?ne_x_BadCount_Lacking ?sx_BadCount_Shut ?ne_x_BadCount_Shut ?sx_BadCount_Unmet ?ne_x_BadCount_Unmet ?sx_BadCount_Never ?ne_x_BadCount_Never ?sx_BadCount_YardError ?ne_x_BadCount_YardError ?xa_Lacking ?xm_Lacking ?sx_Lacking_Repeated ?ne_x_Lacking_Repeated ?sx_Lacking_Unknown ?ne_x_Lacking_Unknown ?sx_Lacking_NoStep ?ne_x_Lacking_NoStep ?sx_Lacking_BadCount ?ne_x_Lacking_BadCount ?sx_Lacking_Shut ?ne_x_Lacking_Shut ?sx_Lacking_Unmet ?ne_x_Lacking_Unmet ?sx_Lacking_Never ?ne_x_Lacking_Never ?sx_Lacking_YardError ?ne_x_Lacking_YardError ?xa_Shut ?xm_Shut ?sx_Shut_Repeated ?ne_x_Shut_Repeated ?sx_Shut_Unknown ?ne_x_Shut_Unknown ?sx_Shut_NoStep ?ne_x_Shut_NoStep ?sx_Shut_BadCount ?ne_x_Shut_BadCount ?sx_Shut_Lacking ?ne_x_Shut_Lacking ?sx_Shut_Unmet ?ne_x_Shut_Unmet ?sx_Shut_Never ?ne_x_Shut_Never ?sx_Shut_YardError ?ne_x_Shut_YardError ?xa_Unmet ?xm_Unmet ?sx_Unmet_Repeated ?ne_x_Unmet_Repeated ?sx_Unmet_Unknown ?ne_x_Unmet_Unknown ?sx_Unmet_NoStep ?ne_x_Unmet_NoStep ?sx_Unmet_BadCount ?ne_x_Unmet_BadCount ?sx_Unmet_Lacking ?ne_x_Unmet_Lacking ?sx_Unmet_Shut ?ne_x_Unmet_Shut ?sx_Unmet_Never ?ne_x_Unmet_Never ?sx_Unmet_YardError ?ne_x_Unmet_YardError ?xa_Never ?xm_Never ?sx_Never_Repeated ?ne_x_Never_Repeated ?sx_Never_Unknown ?ne_x_Never_Unknown ?sx_Never_NoStep ?ne_x_Never_NoStep ?sx_Never_BadCount ?ne_x_Never_BadCount ?sx_Never_Lacking ?ne_x_Never_Lacking ?sx_Never_Shut ?ne_x_Never_Shut ?sx_Never_Unmet ?ne_x_Never_Unmet ?sx_Never_YardError ?ne_x_Never_YardError ?stat ?a_1 ?ti_Repeated_init ?l_1 ?c_1 ?cd1_Repeated_init ?cd2_Repeated_init ?cd3_Repeated_init ?cl1_Repeated_init ?a_2 ?ti_Unknown_init ?l_2 ?c_2 ?cd1_Unknown_init ?cd2_Unknown_init ?cd3_Unknown_init ?cl1_Unknown_init ?a_5 ?ti_NoStep_init ?l_5 ?c_5 ?cd1_NoStep_init ?cd2_NoStep_init ?cd3_NoStep_init ?cl1_NoStep_init ?a_0 ?ti_BadCount_init ?l_0 ?c_0 ?cd1_BadCount_init ?cd2_BadCount_init ?cd3_BadCount_init ?cl1_BadCount_init ?a_3 ?ti_Lacking_init ?l_3 ?c_3 ?cd1_Lacking_init ?cd2_Lacking_init ?cd3_Lacking_init ?cl1_Lacking_init ?a_8 ?ti_Shut_init ?l_8 ?c_8 ?cd1_Shut_init ?cd2_Shut_init ?cd3_Shut_init ?cl1_Shut_init ?a_6 ?ti_Unmet_init ?l_6 ?c_6 ?cd1_Unmet_init ?cd2_Unmet_init ?cd3_Unmet_init ?cl1_Unmet_init ?a_7 ?ti_Never_init ?l_7 ?c_7 ?cd1_Never_init ?cd2_Never_init ?cd3_Never_init ?cl1_Never_init ?topS ?a_9 ?i_9 ?l_9 ?c_9 ?k_9 ?t1_Hold_init ?e1_Hold_init ?a_13 ?l_13 ?c_13 ?k_13 ?a_10 ?l_10 ?c_10 ?k_10 ?a_11 ?l_11 ?c_11 ?k_11 ?a_12 ?l_12 ?c_12 ?k_12 ?a_4 ?l_4 ?c_4 ?k_4 ?a_law ?l_14 ?c_14 ?k_14 ?pg_Hold ?hd_Hold ?po_Hold ?sa_Hold ?mk_Hold ?kc_Hold ?ha_Hold ?hm_Hold ?sf_Hold ?nf_Hold ?nfl_Hold ?ic_Hold ?ty_Hold ?sl_Hold ?na_Hold_rows ?hn ?ht ?z_len ?z_all ?z_list ?z_int ?z_range ?z_isinstance ?z_iter ?z_bool ?z_super ?z_ValueError
    (case aC_Hold => k_is)
    (case aC_Repeated => k_is)
    (case lC_Repeated => k_is)
    (case rv_Repeated => exact rfl)
    (case sa_Repeated => k_is)
    (case eb_Repeated => k_is)
    (case ty_Repeated => k_is)
    (case kc_Repeated => k_is)
    (case su_Repeated => ks_is)
    (case ve_Repeated => k_is)
    (case mr_Repeated => k_is)
    (case ga_Repeated => k_is)
    (case gg_Repeated => k_is)
    (case hd_Repeated => k_is)
    (case na_Repeated_name => k_is)
    (case aC_Unknown => k_is)
    (case lC_Unknown => k_is)
    (case rv_Unknown => exact rfl)
    (case sa_Unknown => k_is)
    (case eb_Unknown => k_is)
    (case ty_Unknown => k_is)
    (case kc_Unknown => k_is)
    (case su_Unknown => ks_is)
    (case ve_Unknown => k_is)
    (case mr_Unknown => k_is)
    (case ga_Unknown => k_is)
    (case gg_Unknown => k_is)
    (case hd_Unknown => k_is)
    (case na_Unknown_name => k_is)
    (case aC_NoStep => k_is)
    (case lC_NoStep => k_is)
    (case rv_NoStep => exact rfl)
    (case sa_NoStep => k_is)
    (case eb_NoStep => k_is)
    (case ty_NoStep => k_is)
    (case kc_NoStep => k_is)
    (case su_NoStep => ks_is)
    (case ve_NoStep => k_is)
    (case mr_NoStep => k_is)
    (case ga_NoStep => k_is)
    (case gg_NoStep => k_is)
    (case hd_NoStep => k_is)
    (case na_NoStep_before => k_is)
    (case na_NoStep_after => k_is)
    (case aC_BadCount => k_is)
    (case lC_BadCount => k_is)
    (case rv_BadCount => exact rfl)
    (case sa_BadCount => k_is)
    (case eb_BadCount => k_is)
    (case ty_BadCount => k_is)
    (case kc_BadCount => k_is)
    (case su_BadCount => ks_is)
    (case ve_BadCount => k_is)
    (case mr_BadCount => k_is)
    (case ga_BadCount => k_is)
    (case gg_BadCount => k_is)
    (case hd_BadCount => k_is)
    (case na_BadCount_count => k_is)
    (case aC_Lacking => k_is)
    (case lC_Lacking => k_is)
    (case rv_Lacking => exact rfl)
    (case sa_Lacking => k_is)
    (case eb_Lacking => k_is)
    (case ty_Lacking => k_is)
    (case kc_Lacking => k_is)
    (case su_Lacking => ks_is)
    (case ve_Lacking => k_is)
    (case mr_Lacking => k_is)
    (case ga_Lacking => k_is)
    (case gg_Lacking => k_is)
    (case hd_Lacking => k_is)
    (case na_Lacking_kind => k_is)
    (case na_Lacking_standing => k_is)
    (case aC_Shut => k_is)
    (case lC_Shut => k_is)
    (case rv_Shut => exact rfl)
    (case sa_Shut => k_is)
    (case eb_Shut => k_is)
    (case ty_Shut => k_is)
    (case kc_Shut => k_is)
    (case su_Shut => ks_is)
    (case ve_Shut => k_is)
    (case mr_Shut => k_is)
    (case ga_Shut => k_is)
    (case gg_Shut => k_is)
    (case hd_Shut => k_is)
    (case na_Shut_door => k_is)
    (case aC_Unmet => k_is)
    (case lC_Unmet => k_is)
    (case rv_Unmet => exact rfl)
    (case sa_Unmet => k_is)
    (case eb_Unmet => k_is)
    (case ty_Unmet => k_is)
    (case kc_Unmet => k_is)
    (case su_Unmet => ks_is)
    (case ve_Unmet => k_is)
    (case mr_Unmet => k_is)
    (case ga_Unmet => k_is)
    (case gg_Unmet => k_is)
    (case hd_Unmet => k_is)
    (case na_Unmet_kind => k_is)
    (case na_Unmet_standing => k_is)
    (case na_Unmet_door => k_is)
    (case aC_Never => k_is)
    (case lC_Never => k_is)
    (case rv_Never => exact rfl)
    (case sa_Never => k_is)
    (case eb_Never => k_is)
    (case ty_Never => k_is)
    (case kc_Never => k_is)
    (case su_Never => ks_is)
    (case ve_Never => k_is)
    (case mr_Never => k_is)
    (case ga_Never => k_is)
    (case gg_Never => k_is)
    (case hd_Never => k_is)
    (case na_Never_closed => k_is)
    (case aC_YardError => k_is)
    (case icx_YardError => k_is)
    (case ty_YardError => k_is)
    (case xa_Repeated => k_is)
    (case xm_Repeated => k_is)
    (case sx_Repeated_Unknown => k_is)
    (case ne_x_Repeated_Unknown => first | exact rfl | decide)
    (case sx_Repeated_NoStep => k_is)
    (case ne_x_Repeated_NoStep => first | exact rfl | decide)
    (case sx_Repeated_BadCount => k_is)
    (case ne_x_Repeated_BadCount => first | exact rfl | decide)
    (case sx_Repeated_Lacking => k_is)
    (case ne_x_Repeated_Lacking => first | exact rfl | decide)
    (case sx_Repeated_Shut => k_is)
    (case ne_x_Repeated_Shut => first | exact rfl | decide)
    (case sx_Repeated_Unmet => k_is)
    (case ne_x_Repeated_Unmet => first | exact rfl | decide)
    (case sx_Repeated_Never => k_is)
    (case ne_x_Repeated_Never => first | exact rfl | decide)
    (case sx_Repeated_YardError => k_is)
    (case ne_x_Repeated_YardError => first | exact rfl | decide)
    (case xa_Unknown => k_is)
    (case xm_Unknown => k_is)
    (case sx_Unknown_Repeated => k_is)
    (case ne_x_Unknown_Repeated => first | exact rfl | decide)
    (case sx_Unknown_NoStep => k_is)
    (case ne_x_Unknown_NoStep => first | exact rfl | decide)
    (case sx_Unknown_BadCount => k_is)
    (case ne_x_Unknown_BadCount => first | exact rfl | decide)
    (case sx_Unknown_Lacking => k_is)
    (case ne_x_Unknown_Lacking => first | exact rfl | decide)
    (case sx_Unknown_Shut => k_is)
    (case ne_x_Unknown_Shut => first | exact rfl | decide)
    (case sx_Unknown_Unmet => k_is)
    (case ne_x_Unknown_Unmet => first | exact rfl | decide)
    (case sx_Unknown_Never => k_is)
    (case ne_x_Unknown_Never => first | exact rfl | decide)
    (case sx_Unknown_YardError => k_is)
    (case ne_x_Unknown_YardError => first | exact rfl | decide)
    (case xa_NoStep => k_is)
    (case xm_NoStep => k_is)
    (case sx_NoStep_Repeated => k_is)
    (case ne_x_NoStep_Repeated => first | exact rfl | decide)
    (case sx_NoStep_Unknown => k_is)
    (case ne_x_NoStep_Unknown => first | exact rfl | decide)
    (case sx_NoStep_BadCount => k_is)
    (case ne_x_NoStep_BadCount => first | exact rfl | decide)
    (case sx_NoStep_Lacking => k_is)
    (case ne_x_NoStep_Lacking => first | exact rfl | decide)
    (case sx_NoStep_Shut => k_is)
    (case ne_x_NoStep_Shut => first | exact rfl | decide)
    (case sx_NoStep_Unmet => k_is)
    (case ne_x_NoStep_Unmet => first | exact rfl | decide)
    (case sx_NoStep_Never => k_is)
    (case ne_x_NoStep_Never => first | exact rfl | decide)
    (case sx_NoStep_YardError => k_is)
    (case ne_x_NoStep_YardError => first | exact rfl | decide)
    (case xa_BadCount => k_is)
    (case xm_BadCount => k_is)
    (case sx_BadCount_Repeated => k_is)
    (case ne_x_BadCount_Repeated => first | exact rfl | decide)
    (case sx_BadCount_Unknown => k_is)
    (case ne_x_BadCount_Unknown => first | exact rfl | decide)
    (case sx_BadCount_NoStep => k_is)
    (case ne_x_BadCount_NoStep => first | exact rfl | decide)
    (case sx_BadCount_Lacking => k_is)
    (case ne_x_BadCount_Lacking => first | exact rfl | decide)
    (case sx_BadCount_Shut => k_is)
    (case ne_x_BadCount_Shut => first | exact rfl | decide)
    (case sx_BadCount_Unmet => k_is)
    (case ne_x_BadCount_Unmet => first | exact rfl | decide)
    (case sx_BadCount_Never => k_is)
    (case ne_x_BadCount_Never => first | exact rfl | decide)
    (case sx_BadCount_YardError => k_is)
    (case ne_x_BadCount_YardError => first | exact rfl | decide)
    (case xa_Lacking => k_is)
    (case xm_Lacking => k_is)
    (case sx_Lacking_Repeated => k_is)
    (case ne_x_Lacking_Repeated => first | exact rfl | decide)
    (case sx_Lacking_Unknown => k_is)
    (case ne_x_Lacking_Unknown => first | exact rfl | decide)
    (case sx_Lacking_NoStep => k_is)
    (case ne_x_Lacking_NoStep => first | exact rfl | decide)
    (case sx_Lacking_BadCount => k_is)
    (case ne_x_Lacking_BadCount => first | exact rfl | decide)
    (case sx_Lacking_Shut => k_is)
    (case ne_x_Lacking_Shut => first | exact rfl | decide)
    (case sx_Lacking_Unmet => k_is)
    (case ne_x_Lacking_Unmet => first | exact rfl | decide)
    (case sx_Lacking_Never => k_is)
    (case ne_x_Lacking_Never => first | exact rfl | decide)
    (case sx_Lacking_YardError => k_is)
    (case ne_x_Lacking_YardError => first | exact rfl | decide)
    (case xa_Shut => k_is)
    (case xm_Shut => k_is)
    (case sx_Shut_Repeated => k_is)
    (case ne_x_Shut_Repeated => first | exact rfl | decide)
    (case sx_Shut_Unknown => k_is)
    (case ne_x_Shut_Unknown => first | exact rfl | decide)
    (case sx_Shut_NoStep => k_is)
    (case ne_x_Shut_NoStep => first | exact rfl | decide)
    (case sx_Shut_BadCount => k_is)
    (case ne_x_Shut_BadCount => first | exact rfl | decide)
    (case sx_Shut_Lacking => k_is)
    (case ne_x_Shut_Lacking => first | exact rfl | decide)
    (case sx_Shut_Unmet => k_is)
    (case ne_x_Shut_Unmet => first | exact rfl | decide)
    (case sx_Shut_Never => k_is)
    (case ne_x_Shut_Never => first | exact rfl | decide)
    (case sx_Shut_YardError => k_is)
    (case ne_x_Shut_YardError => first | exact rfl | decide)
    (case xa_Unmet => k_is)
    (case xm_Unmet => k_is)
    (case sx_Unmet_Repeated => k_is)
    (case ne_x_Unmet_Repeated => first | exact rfl | decide)
    (case sx_Unmet_Unknown => k_is)
    (case ne_x_Unmet_Unknown => first | exact rfl | decide)
    (case sx_Unmet_NoStep => k_is)
    (case ne_x_Unmet_NoStep => first | exact rfl | decide)
    (case sx_Unmet_BadCount => k_is)
    (case ne_x_Unmet_BadCount => first | exact rfl | decide)
    (case sx_Unmet_Lacking => k_is)
    (case ne_x_Unmet_Lacking => first | exact rfl | decide)
    (case sx_Unmet_Shut => k_is)
    (case ne_x_Unmet_Shut => first | exact rfl | decide)
    (case sx_Unmet_Never => k_is)
    (case ne_x_Unmet_Never => first | exact rfl | decide)
    (case sx_Unmet_YardError => k_is)
    (case ne_x_Unmet_YardError => first | exact rfl | decide)
    (case xa_Never => k_is)
    (case xm_Never => k_is)
    (case sx_Never_Repeated => k_is)
    (case ne_x_Never_Repeated => first | exact rfl | decide)
    (case sx_Never_Unknown => k_is)
    (case ne_x_Never_Unknown => first | exact rfl | decide)
    (case sx_Never_NoStep => k_is)
    (case ne_x_Never_NoStep => first | exact rfl | decide)
    (case sx_Never_BadCount => k_is)
    (case ne_x_Never_BadCount => first | exact rfl | decide)
    (case sx_Never_Lacking => k_is)
    (case ne_x_Never_Lacking => first | exact rfl | decide)
    (case sx_Never_Shut => k_is)
    (case ne_x_Never_Shut => first | exact rfl | decide)
    (case sx_Never_Unmet => k_is)
    (case ne_x_Never_Unmet => first | exact rfl | decide)
    (case sx_Never_YardError => k_is)
    (case ne_x_Never_YardError => first | exact rfl | decide)
    (case stat => k_is)
    (case a_1 => k_is)
    (case ti_Repeated_init => k_is)
    (case l_1 => k_is)
    (case c_1 => k_is)
    (case cd1_Repeated_init => k_is)
    (case cd2_Repeated_init => exact rfl)
    (case cd3_Repeated_init => decide +kernel)
    (case cl1_Repeated_init => k_is)
    (case a_2 => k_is)
    (case ti_Unknown_init => k_is)
    (case l_2 => k_is)
    (case c_2 => k_is)
    (case cd1_Unknown_init => k_is)
    (case cd2_Unknown_init => exact rfl)
    (case cd3_Unknown_init => decide +kernel)
    (case cl1_Unknown_init => k_is)
    (case a_5 => k_is)
    (case ti_NoStep_init => k_is)
    (case l_5 => k_is)
    (case c_5 => k_is)
    (case cd1_NoStep_init => k_is)
    (case cd2_NoStep_init => exact rfl)
    (case cd3_NoStep_init => decide +kernel)
    (case cl1_NoStep_init => k_is)
    (case a_0 => k_is)
    (case ti_BadCount_init => k_is)
    (case l_0 => k_is)
    (case c_0 => k_is)
    (case cd1_BadCount_init => k_is)
    (case cd2_BadCount_init => exact rfl)
    (case cd3_BadCount_init => decide +kernel)
    (case cl1_BadCount_init => k_is)
    (case a_3 => k_is)
    (case ti_Lacking_init => k_is)
    (case l_3 => k_is)
    (case c_3 => k_is)
    (case cd1_Lacking_init => k_is)
    (case cd2_Lacking_init => exact rfl)
    (case cd3_Lacking_init => decide +kernel)
    (case cl1_Lacking_init => k_is)
    (case a_8 => k_is)
    (case ti_Shut_init => k_is)
    (case l_8 => k_is)
    (case c_8 => k_is)
    (case cd1_Shut_init => k_is)
    (case cd2_Shut_init => exact rfl)
    (case cd3_Shut_init => decide +kernel)
    (case cl1_Shut_init => k_is)
    (case a_6 => k_is)
    (case ti_Unmet_init => k_is)
    (case l_6 => k_is)
    (case c_6 => k_is)
    (case cd1_Unmet_init => k_is)
    (case cd2_Unmet_init => exact rfl)
    (case cd3_Unmet_init => decide +kernel)
    (case cl1_Unmet_init => k_is)
    (case a_7 => k_is)
    (case ti_Never_init => k_is)
    (case l_7 => k_is)
    (case c_7 => k_is)
    (case cd1_Never_init => k_is)
    (case cd2_Never_init => exact rfl)
    (case cd3_Never_init => decide +kernel)
    (case cl1_Never_init => k_is)
    (case topS => exact rfl)
    (case a_9 => k_is)
    (case i_9 => k_is)
    (case l_9 => k_is)
    (case c_9 => k_is)
    (case k_9 => k_is)
    (case t1_Hold_init => k_is)
    (case e1_Hold_init => k_is)
    (case a_13 => k_is)
    (case l_13 => k_is)
    (case c_13 => k_is)
    (case k_13 => k_is)
    (case a_10 => k_is)
    (case l_10 => k_is)
    (case c_10 => k_is)
    (case k_10 => k_is)
    (case a_11 => k_is)
    (case l_11 => k_is)
    (case c_11 => k_is)
    (case k_11 => k_is)
    (case a_12 => k_is)
    (case l_12 => k_is)
    (case c_12 => k_is)
    (case k_12 => k_is)
    (case a_4 => k_is)
    (case l_4 => k_is)
    (case c_4 => k_is)
    (case k_4 => k_is)
    (case a_law => k_is)
    (case l_14 => k_is)
    (case c_14 => k_is)
    (case k_14 => k_is)
    (case pg_Hold => k_is)
    (case hd_Hold => k_is)
    (case po_Hold => k_is)
    (case sa_Hold => k_is)
    (case mk_Hold => k_is)
    (case kc_Hold => k_is)
    (case ha_Hold => k_is)
    (case hm_Hold => k_is)
    (case sf_Hold => k_is)
    (case nf_Hold => k_is)
    (case nfl_Hold => k_is)
    (case ic_Hold => k_is)
    (case ty_Hold => k_is)
    (case sl_Hold => k_is)
    (case na_Hold_rows => k_is)
    (case hn => k_is)
    (case ht => k_is)
    (case z_len => k_is)
    (case z_all => k_is)
    (case z_list => k_is)
    (case z_int => k_is)
    (case z_range => k_is)
    (case z_isinstance => k_is)
    (case z_iter => k_is)
    (case z_bool => k_is)
    (case z_super => k_is)
    (case z_ValueError => k_is)
end
namespace GL
open PySem L2 PySem.Spec PyProof.Rows
inductive D where
  | non | bl (b : Bool) | int (i : Int) | str (x : Str) | lst (l : List D) | tup (l : List D) | obj (c : Nat) (l : List D) | ref (a : Addr) | scr (ns : List Int) | ty (n : String)
  | dK (ks : List Key) (l : List D) | dT (ks : List (List Key)) (l : List D) | exc (c : Nat) (l : List D) | cau (a dd : Addr) (c : Nat) (l : List D) | lsr (as : List Addr) (l : List D) | idn (a : Addr) (d : D)
instance : Inhabited D := ⟨.non⟩
structure Sg0 where
  K : PySem.W.Frag
  cls : Nat → Addr
  nms : Nat → List Str
def SqU (K : PySem.W.Frag) (H : Hp) (a : Addr) (xs : List V) : Prop := SqT K H a xs ∧ (xs = [] ∨ H a = some (.tup xs))
theorem SqU.of {K : PySem.W.Frag} {H : Hp} {a : Addr} {xs : List V} (h : H a = some (.tup xs)) : SqU K H a xs := ⟨.inl (.inl h), .inr h⟩
instance {K : PySem.W.Frag} {H : Hp} {a : Addr} {xs : List V} : Coe (SqU K H a xs) (SqT K H a xs) := ⟨And.left⟩
mutual
inductive Rp (S : Sg0) (H : Hp) : V → D → Prop
  | non : Rp S H .non .non
  | bl (b : Bool) : Rp S H (.bl b) (.bl b)
  | int (i : Int) : Rp S H (.int i) (.int i)
  | str (x : Str) : Rp S H (.str x) (.str x)
  | lst {a : Addr} {xs : List V} {ds : List D} : H a = some (.lst xs) → RpA S H xs ds → Rp S H (.ref a) (.lst ds)
  | tup {a : Addr} {xs : List V} {ds : List D} : SqU S.K H a xs → RpA S H xs ds → Rp S H (.ref a) (.tup ds)
  | obj {a dx : Addr} {c : Nat} {vs : List V} {ds : List D} : H a = some (.ins (S.cls c) dx ((S.nms c).zip vs)) → vs.length = (S.nms c).length → RpA S H vs ds → Rp S H (.ref a) (.obj c ds)
  | ref (a : Addr) : Rp S H (.ref a) (.ref a)
  | ty (n : String) : Rp S H (.ty n) (.ty n)
  | scr {a : Addr} {ns : List Int} : SqL S.K H a (ns.map V.int) → Rp S H (.ref a) (.scr ns)
  | dK {a : Addr} {o : Obj} {ks : List Key} {vs : List V} {ds : List D} : H a = some (.frz o (.dK (ks.zip vs))) → vs.length = ks.length → RpA S H vs ds → Rp S H (.ref a) (.dK ks ds)
  | dT {a : Addr} {o : Obj} {ks : List (List Key)} {vs : List V} {ds : List D} : H a = some (.frz o (.dT (ks.zip vs))) → vs.length = ks.length → RpA S H vs ds → Rp S H (.ref a) (.dT ks ds)
  | exc {a d : Addr} {c : Nat} {vs : List V} {ds : List D} : H a = some (exo a (S.cls c) (some d)) → H d = some (exd d ((S.nms c).zip vs)) → vs.length = (S.nms c).length → RpA S H vs ds → Rp S H (.ref a) (.exc c ds)
  | cau {a dd : Addr} {c : Nat} {vs : List V} {ds : List D} : H dd = some (.xd ((S.nms c).zip vs)) → vs.length = (S.nms c).length → RpA S H vs ds → Rp S H (.ref a) (.cau a dd c ds)
  | lsr {a : Addr} {as : List Addr} {ds : List D} : H a = some (.lst (as.map V.ref)) → RpA S H (as.map V.ref) ds → Rp S H (.ref a) (.lsr as ds)
  | idn {a : Addr} {d : D} : Rp S H (.ref a) d → Rp S H (.ref a) (.idn a d)
inductive RpA (S : Sg0) (H : Hp) : List V → List D → Prop
  | nil : RpA S H [] []
  | cons {v : V} {vs : List V} {d : D} {ds : List D} : Rp S H v d → RpA S H vs ds → RpA S H (v :: vs) (d :: ds)
end
def Ex (H H' : Hp) : Prop := ∀ a o, H a = some o → H' a = some o
theorem Ex.refl (H : Hp) : Ex H H := fun _ _ h => h
theorem Ex.trans {H H1 H2 : Hp} (a : Ex H H1) (b : Ex H1 H2) : Ex H H2 := fun x o h => b x o (a x o h)
theorem Ex.rd {H H' : Hp} {a : Addr} {u : HO} (e : Ex H H') (h : Rd H a u) : Rd H' a u := by
  rcases h with h | ⟨o, h⟩
  · exact Or.inl (e a _ h)
  · exact Or.inr ⟨o, e a _ h⟩
theorem Ex.l {K : PySem.W.Frag} {H H' : Hp} {a : Addr} {xs : List V} (e : Ex H H') (h : SqL K H a xs) : SqL K H' a xs := by
  rcases h with h | h
  · exact Or.inl (e.rd h)
  · exact Or.inr h
theorem Ex.t {K : PySem.W.Frag} {H H' : Hp} {a : Addr} {xs : List V} (e : Ex H H') (h : SqT K H a xs) : SqT K H' a xs := by
  rcases h with h | h
  · exact Or.inl (e.rd h)
  · exact Or.inr h
section
variable {S : Sg0} {H H' : Hp}
mutual
theorem Rp.ext (e : Ex H H') : ∀ {v : V} {d : D}, Rp S H v d → Rp S H' v d
  | _, _, .non => .non
  | _, _, .bl b => .bl b
  | _, _, .int i => .int i
  | _, _, .str x => .str x
  | _, _, .lst h hs => .lst (e _ _ h) (RpA.ext e hs)
  | _, _, .tup h hs => .tup ⟨e.t h.1, h.2.imp id (e _ _)⟩ (RpA.ext e hs)
  | _, _, .obj h hl hs => .obj (e _ _ h) hl (RpA.ext e hs)
  | _, _, .ref a => .ref a
  | _, _, .ty n => .ty n
  | _, _, .scr h => .scr (e.l h)
  | _, _, .dK h hl hs => .dK (e _ _ h) hl (RpA.ext e hs)
  | _, _, .dT h hl hs => .dT (e _ _ h) hl (RpA.ext e hs)
  | _, _, .exc h h2 hl hs => .exc (e _ _ h) (e _ _ h2) hl (RpA.ext e hs)
  | _, _, .cau h hl hs => .cau (e _ _ h) hl (RpA.ext e hs)
  | _, _, .lsr h hs => .lsr (e _ _ h) (RpA.ext e hs)
  | _, _, .idn h => .idn (Rp.ext e h)
theorem RpA.ext (e : Ex H H') : ∀ {vs : List V} {ds : List D}, RpA S H vs ds → RpA S H' vs ds
  | _, _, .nil => .nil
  | _, _, .cons h t => .cons (Rp.ext e h) (RpA.ext e t)
end
theorem RpA.length : ∀ {vs : List V} {ds : List D}, RpA S H vs ds → vs.length = ds.length
  | _, _, .nil => rfl
  | _, _, .cons _ t => by rw [List.length_cons, List.length_cons, RpA.length t]
theorem RpA.get : ∀ {vs : List V} {ds : List D} {i : Nat} {d : D}, RpA S H vs ds → ds[i]? = some d → ∃ v, vs[i]? = some v ∧ Rp S H v d
  | _, _, _, _, .nil, e => by simp at e
  | _, _, 0, _, .cons h _, e => by simp at e; subst e; exact ⟨_, by simp, h⟩
  | _, _, i + 1, _, .cons _ t, e => by
    obtain ⟨v, hv, r⟩ := RpA.get (i := i) t (by simpa using e)
    exact ⟨v, by simpa using hv, r⟩
theorem RpA.append : ∀ {vs ws : List V} {ds es : List D}, RpA S H vs ds → RpA S H ws es → RpA S H (vs ++ ws) (ds ++ es)
  | _, _, _, _, .nil, s => s
  | _, _, _, _, .cons h t, s => .cons h (RpA.append t s)
theorem RpA.set : ∀ {vs : List V} {ds : List D} {v : V} {d : D} (i : Nat), Rp S H v d → RpA S H vs ds → RpA S H (vs.set i v) (ds.set i d)
  | _, _, _, _, _, _, .nil => .nil
  | _, _, _, _, 0, r, .cons _ t => .cons r t
  | _, _, _, _, i + 1, r, .cons h t => .cons h (RpA.set i r t)
theorem RpA.take : ∀ {vs : List V} {ds : List D} (n : Nat), RpA S H vs ds → RpA S H (vs.take n) (ds.take n)
  | _, _, 0, _ => by simp; exact .nil
  | _, _, _ + 1, .nil => .nil
  | _, _, n + 1, .cons r t => .cons r (RpA.take n t)
theorem RpA.drop : ∀ {vs : List V} {ds : List D} (n : Nat), RpA S H vs ds → RpA S H (vs.drop n) (ds.drop n)
  | _, _, 0, r => r
  | _, _, _ + 1, .nil => .nil
  | _, _, n + 1, .cons _ t => RpA.drop n t
end
inductive M where
  | lst (ds : List D)
  | ins (C : Addr) (fs : List (Str × D))
  | dK (kvs : List (Key × D))
  | dT (kvs : List (List Key × D))
  | fzK (o : Obj) (vs : List (Key × V)) (kvs : List (Key × D))
  | fzT (o : Obj) (vs : List (List Key × V)) (kvs : List (List Key × D))
abbrev Mem := List (Addr × M)
abbrev Gm := List (Option D)
abbrev adr (μ : Mem) : List Addr := μ.map (·.1)
def vis (N H : Hp) (A : List Addr) : Hp := fun b => if (N b).isSome = true ∨ b ∈ A then none else H b
theorem vis_le {N H : Hp} {A : List Addr} : Ex (vis N H A) H := fun a o e => by
  unfold vis at e
  split at e
  · cases e
  · exact e
theorem vis_mk {N H : Hp} {A : List Addr} {b : Addr} {o : HO} (e : H b = some o) (hn : N b = none) (ha : b ∉ A) : vis N H A b = some o := by
  unfold vis
  rw [if_neg (by rw [hn]; simp [ha])]
  exact e
theorem vis_in {N H : Hp} {A : List Addr} {b : Addr} {o : HO} (e : vis N H A b = some o) : N b = none ∧ b ∉ A ∧ H b = some o := by
  unfold vis at e
  split at e
  · cases e
  · rename_i h
    refine ⟨?_, fun z => h (.inr z), e⟩
    cases q : N b with
    | none => rfl
    | some x => exact absurd (.inl (by rw [q]; rfl)) h
inductive RpF (S : Sg0) (H : Hp) : List (Str × V) → List (Str × D) → Prop
  | nil : RpF S H [] []
  | cons {f : Str} {v : V} {d : D} {vs : List (Str × V)} {ds : List (Str × D)} : Rp S H v d → RpF S H vs ds → RpF S H ((f, v) :: vs) ((f, d) :: ds)
inductive RpK {κ : Type} (S : Sg0) (H : Hp) : List (κ × V) → List (κ × D) → Prop
  | nil : RpK S H [] []
  | cons {k : κ} {v : V} {d : D} {vs : List (κ × V)} {ds : List (κ × D)} : Rp S H v d → RpK S H vs ds → RpK S H ((k, v) :: vs) ((k, d) :: ds)
inductive RpM (S : Sg0) (H : Hp) : M → HO → Prop
  | lst {ds : List D} {xs : List V} : RpA S H xs ds → RpM S H (.lst ds) (.lst xs)
  | ins {C dx : Addr} {fs : List (Str × D)} {vs : List (Str × V)} : RpF S H vs fs → RpM S H (.ins C fs) (.ins C dx vs)
  | dK {kvs : List (Key × D)} {vs : List (Key × V)} : RpK S H vs kvs → RpM S H (.dK kvs) (.dK vs)
  | dT {kvs : List (List Key × D)} {vs : List (List Key × V)} : RpK S H vs kvs → RpM S H (.dT kvs) (.dT vs)
  | fzK {o : Obj} {kvs : List (Key × D)} {vs : List (Key × V)} : RpK S H vs kvs → RpM S H (.fzK o vs kvs) (.frz o (.dK vs))
  | fzT {o : Obj} {kvs : List (List Key × D)} {vs : List (List Key × V)} : RpK S H vs kvs → RpM S H (.fzT o vs kvs) (.frz o (.dT vs))
theorem RpF.ext {S : Sg0} {H H' : Hp} (e : Ex H H') : ∀ {vs : List (Str × V)} {ds : List (Str × D)}, RpF S H vs ds → RpF S H' vs ds
  | _, _, .nil => .nil
  | _, _, .cons h t => .cons (h.ext e) (RpF.ext e t)
theorem RpK.ext {κ : Type} {S : Sg0} {H H' : Hp} (e : Ex H H') : ∀ {vs : List (κ × V)} {ds : List (κ × D)}, RpK S H vs ds → RpK S H' vs ds
  | _, _, .nil => .nil
  | _, _, .cons h t => .cons (h.ext e) (RpK.ext e t)
theorem RpM.ext {S : Sg0} {H H' : Hp} (e : Ex H H') {m : M} {o : HO} (r : RpM S H m o) : RpM S H' m o := by
  cases r with
  | lst h => exact .lst (h.ext e)
  | ins h => exact .ins (h.ext e)
  | dK h => exact .dK (h.ext e)
  | dT h => exact .dT (h.ext e)
  | fzK h => exact .fzK (h.ext e)
  | fzT h => exact .fzT (h.ext e)
theorem RpM.notup {S : Sg0} {H : Hp} {m : M} {o : HO} (r : RpM S H m o) : ∀ xs, o ≠ .tup xs := fun xs h => by
  cases r <;> cases h
structure RelM0 (S : Sg0) (F N H : Hp) (μ : Mem) : Prop where
  hid : Ex N H
  dis : ∀ a ∈ adr μ, N a = none
  ext : Ex F (vis N H (adr μ))
  nd : (adr μ).Nodup
  mem : ∀ p ∈ μ, ∃ o, H p.1 = some o ∧ RpM S (vis N H (adr μ)) p.2 o
  tup : ∀ a xs, N a ≠ some (.tup xs)
abbrev RelO1 (S : Sg0) (Hv : Hp) (o : Option V) (g : Option D) : Prop := ∀ d, g = some d → ∃ v, o = some v ∧ Rp S Hv v d
abbrev RelS (S : Sg0) (Hv : Hp) (σ : L2.St) (Γ : Gm) : Prop := Paired (RelO1 S Hv) σ Γ
section
variable {S : Sg0} {F F' N H H' Hv Hv' : Hp} {μ μ' : Mem} {σ : L2.St} {Γ : Gm}
theorem RelS.ext (e : Ex Hv Hv') (r : RelS S Hv σ Γ) : RelS S Hv' σ Γ := Paired.mapP r fun a b h d hd => by
  obtain ⟨v, hv, r⟩ := h d hd
  exact ⟨v, hv, r.ext e⟩
theorem RelS.get {d : D} : ∀ {σ : L2.St} {Γ : Gm} {i : Nat}, RelS S Hv σ Γ → Γ[i]? = some (some d) → ∃ v, σ[i]? = some (some v) ∧ Rp S Hv v d
  | _, _, _, .nil, e => by simp at e
  | _, _, 0, .cons h _, e => by
    simp at e
    subst e
    obtain ⟨v, hv, r⟩ := h _ rfl
    exact ⟨v, by simp [hv], r⟩
  | _, _, i + 1, .cons _ t, e => by
    obtain ⟨v, hv, r⟩ := RelS.get (d := d) (i := i) t (by simpa using e)
    exact ⟨v, by simpa using hv, r⟩
theorem RelS.set {v : V} {d : D} (r : Rp S Hv v d) : ∀ {σ : L2.St} {Γ : Gm} (i : Nat), RelS S Hv σ Γ → RelS S Hv (σ.set i (some v)) (Γ.set i (some d))
  | _, _, _, .nil => .nil
  | _, _, 0, .cons _ t => .cons (fun d hd => ⟨v, rfl, by cases hd; exact r⟩) t
  | _, _, i + 1, .cons h t => .cons h (RelS.set r i t)
theorem RelM0.weakF (r : RelM0 S F N H μ) (e : Ex F' F) : RelM0 S F' N H μ := ⟨r.hid, r.dis, e.trans r.ext, r.nd, r.mem, r.tup⟩
theorem RelM0.top (r : RelM0 S F N H μ) : RelM0 S (vis N H (adr μ)) N H μ := ⟨r.hid, r.dis, Ex.refl _, r.nd, r.mem, r.tup⟩
theorem RelM0.le (r : RelM0 S F N H μ) : Ex F H := r.ext.trans vis_le
theorem RelM0.unhide {p : Addr} {o : HO} (r : RelM0 S F (upd N p o) H μ) (hN : N p = none) : RelM0 S F N H μ ∧ Ex (vis (upd N p o) H (adr μ)) (vis N H (adr μ)) ∧ vis N H (adr μ) p = some o := by
  have hp : H p = some o := r.hid p o upd_same
  have hpm : p ∉ adr μ := fun h => by
    have := r.dis p h
    rw [upd_same] at this
    cases this
  have e : Ex (vis (upd N p o) H (adr μ)) (vis N H (adr μ)) := fun b u h => by
    obtain ⟨h1, h2, h3⟩ := vis_in h
    refine vis_mk h3 ?_ h2
    by_cases hb : b = p
    · rw [hb]
      exact hN
    · rwa [upd_ne hb] at h1
  refine ⟨⟨fun b u h => r.hid b u (by rw [upd_ne (ne_of_none h hN)]; exact h), fun b hb => ?_, r.ext.trans e, r.nd, fun q hq => ?_, fun b xs h => r.tup b xs (by rw [upd_ne (ne_of_none h hN)]; exact h)⟩, e, vis_mk hp hN hpm⟩
  · have := r.dis b hb
    rwa [upd_ne (fun (z : b = p) => hpm (z ▸ hb))] at this
  · obtain ⟨u, h1, h2⟩ := r.mem q hq
    exact ⟨u, h1, h2.ext e⟩
end
abbrev QE := Nat → List D → Mem → Prop
def XEnd (S : Sg0) (F N : Hp) (qx : QE) : XK := fun cls d H => ∃ c dd vs ds μ, cls = .ref (S.cls c) ∧ d = some dd ∧ H dd = some (.xd ((S.nms c).zip vs)) ∧ vs.length = (S.nms c).length ∧ RpA S (vis N H (adr μ)) vs ds ∧ RelM0 S F N H μ ∧ N dd = none ∧ dd ∉ adr μ ∧ qx c ds μ
structure Sg extends Sg0 where
  qx : QE
  wx : XK
instance : CoeOut Sg Sg0 := ⟨Sg.toSg0⟩
abbrev Sg0.nx (S : Sg0) : Sg := { toSg0 := S, qx := fun _ _ _ => False, wx := fun _ _ _ => False }
def Sg.iv (S : Sg) (F N : Hp) : Prop := ∀ cls d H, XEnd S F N S.qx cls d H → S.wx cls d H
theorem nx_iv {S : Sg0} {F N : Hp} : S.nx.iv F N := fun _ _ _ ⟨_, _, _, _, _, _, _, _, _, _, _, _, _, q⟩ => q
structure RelM (S : Sg) (F N H : Hp) (μ : Mem) : Prop extends RelM0 S.toSg0 F N H μ where
  iv : S.iv F N
instance {S : Sg} {F N H : Hp} {μ : Mem} : CoeOut (RelM S F N H μ) (RelM0 S.toSg0 F N H μ) := ⟨RelM.toRelM0⟩
section
variable {S : Sg} {F F' N H H' Hv Hv' : Hp} {μ μ' : Mem} {σ : L2.St} {Γ : Gm}
theorem iv_ext (i : S.iv F N) (e : Ex F F') : S.iv F' N := fun cls d H ⟨c, dd, vs, ds, μ, h1, h2, h3, hl, h4, r, h5⟩ => i cls d H ⟨c, dd, vs, ds, μ, h1, h2, h3, hl, h4, r.weakF e, h5⟩
theorem iv_hid {p : Addr} {o : HO} (i : S.iv F N) (hN : N p = none) : S.iv F (upd N p o) := fun cls d H ⟨c, dd, vs, ds, μ, h1, h2, h3, hl, h4, r, h5, h6, h7⟩ => by
  obtain ⟨u1, u2, _⟩ := r.unhide hN
  refine i cls d H ⟨c, dd, vs, ds, μ, h1, h2, h3, hl, h4.ext u2, u1, ?_, h6, h7⟩
  by_cases hb : dd = p
  · rw [hb]
    exact hN
  · rwa [upd_ne hb] at h5
theorem RelM.weakF (r : RelM S F N H μ) (e : Ex F' F) (i : S.iv F' N := by exact RelM.iv (by assumption)) : RelM S F' N H μ := ⟨r.toRelM0.weakF e, i⟩
theorem RelM.top (r : RelM S F N H μ) : RelM S (vis N H (adr μ)) N H μ := ⟨r.toRelM0.top, iv_ext r.iv r.ext⟩
theorem RelM.le (r : RelM S F N H μ) : Ex F H := r.ext.trans vis_le
end
structure EXt (X : Cx) (e : Expr) (σ : L2.St) (H : Hp) (Q : VK) : Prop where
  run : ∀ (pins : List (Addr × Obj)) (s : Shared), Inv X pins σ H s → wpAny (model X.prog X.w) X.A (eval e X.env) (EP X pins σ Q) X.xe s
instance {X : Cx} {e : Expr} {σ : L2.St} {H : Hp} {Q : VK} : CoeFun (EXt X e σ H Q) fun _ => ∀ (pins : List (Addr × Obj)) (s : Shared), Inv X pins σ H s → wpAny (model X.prog X.w) X.A (eval e X.env) (EP X pins σ Q) X.xe s := ⟨EXt.run⟩
theorem pe_ex {X : Cx} {e : Expr} : PE X e (EXt X e) := ⟨fun pins s _ _ _ I h => h pins s I⟩
theorem ex_of {X : Cx} {e : Expr} {t : TE} {σ : L2.St} {H : Hp} {Q : VK} (p : PE X e t) (h : t σ H Q) : EXt X e σ H Q := ⟨fun pins s I => p.run pins s σ H Q I h⟩
theorem EXt.mono {X : Cx} {e : Expr} {σ : L2.St} {H : Hp} {Q Q' : VK} (h : EXt X e σ H Q) (m : ∀ v H', Q v H' → Q' v H') : EXt X e σ H Q' := ⟨fun pins s I =>
  thn (h pins s I) fun _ _ ⟨v, H', I', r, q⟩ => ⟨v, H', I', r, m v H' q⟩⟩
structure TXt (X : Cx) (e : Expr) (σ : L2.St) (H : Hp) (Q : Bool → Hp → Prop) : Prop where
  run : ∀ (pins : List (Addr × Obj)) (s : Shared), Inv X pins σ H s → wpAny (model X.prog X.w) X.A (isTrue e X.env (eval e X.env)) (TP X pins σ Q) X.xe s
instance {X : Cx} {e : Expr} {σ : L2.St} {H : Hp} {Q : Bool → Hp → Prop} : CoeFun (TXt X e σ H Q) fun _ => ∀ (pins : List (Addr × Obj)) (s : Shared), Inv X pins σ H s → wpAny (model X.prog X.w) X.A (isTrue e X.env (eval e X.env)) (TP X pins σ Q) X.xe s := ⟨TXt.run⟩
theorem pt_ex {X : Cx} {e : Expr} : PT X e (TXt X e) := ⟨fun pins s _ _ _ I h => h pins s I⟩
theorem tx_of {X : Cx} {e : Expr} {t : TT} {σ : L2.St} {H : Hp} {Q : Bool → Hp → Prop} (p : PT X e t) (h : t σ H Q) : TXt X e σ H Q := ⟨fun pins s I => p.run pins s σ H Q I h⟩
theorem TXt.mono {X : Cx} {e : Expr} {σ : L2.St} {H : Hp} {Q Q' : Bool → Hp → Prop} (h : TXt X e σ H Q) (m : ∀ v H', Q v H' → Q' v H') : TXt X e σ H Q' := ⟨fun pins s I =>
  thn (h pins s I) fun _ _ ⟨H', I', q⟩ => ⟨H', I', m _ H' q⟩⟩
structure WXt (X : Cx) (e : Expr) (σ : L2.St) (H : Hp) (Q : Bool → Hp → Prop) : Prop where
  run : ∀ (wh : Sem Value) (pins : List (Addr × Obj)) (s : Shared), Inv X pins σ H s → wpAny (model X.prog X.w) X.A (isTrue e X.env wh) (TP X pins σ Q) X.xe s
instance {X : Cx} {e : Expr} {σ : L2.St} {H : Hp} {Q : Bool → Hp → Prop} : CoeFun (WXt X e σ H Q) fun _ => ∀ (wh : Sem Value) (pins : List (Addr × Obj)) (s : Shared), Inv X pins σ H s → wpAny (model X.prog X.w) X.A (isTrue e X.env wh) (TP X pins σ Q) X.xe s := ⟨WXt.run⟩
theorem pw_ex {X : Cx} {e : Expr} : PW X e (WXt X e) := ⟨fun wh pins s _ _ _ I h => h wh pins s I⟩
theorem wx_of {X : Cx} {e : Expr} {t : TT} {σ : L2.St} {H : Hp} {Q : Bool → Hp → Prop} (p : PW X e t) (h : t σ H Q) : WXt X e σ H Q := ⟨fun wh pins s I => p.run wh pins s σ H Q I h⟩
structure AXt (X : Cx) (es : List Expr) (σ : L2.St) (H : Hp) (Q : List V → Hp → Prop) : Prop where
  run : ∀ (pos : Pos) (pins : List (Addr × Obj)) (s : Shared), Inv X pins σ H s → wpAny (model X.prog X.w) X.A (spliced (backTo pos (starEach es X.env))) (AP X pins σ Q) X.xe s
instance {X : Cx} {es : List Expr} {σ : L2.St} {H : Hp} {Q : List V → Hp → Prop} : CoeFun (AXt X es σ H Q) fun _ => ∀ (pos : Pos) (pins : List (Addr × Obj)) (s : Shared), Inv X pins σ H s → wpAny (model X.prog X.w) X.A (spliced (backTo pos (starEach es X.env))) (AP X pins σ Q) X.xe s := ⟨AXt.run⟩
theorem pa_ex {X : Cx} {es : List Expr} : PA X es (AXt X es) := ⟨fun pos pins s _ _ _ I h => h pos pins s I⟩
theorem ax_of {X : Cx} {es : List Expr} {t : TA} {σ : L2.St} {H : Hp} {Q : List V → Hp → Prop} (p : PA X es t) (h : t σ H Q) : AXt X es σ H Q := ⟨fun pos pins s I => p.run pos pins s σ H Q I h⟩
theorem AXt.mono {X : Cx} {es : List Expr} {σ : L2.St} {H : Hp} {Q Q' : List V → Hp → Prop} (h : AXt X es σ H Q) (m : ∀ v H', Q v H' → Q' v H') : AXt X es σ H Q' := ⟨fun pos pins s I =>
  thn (h pos pins s I) fun _ _ ⟨v, H', I', r, q⟩ => ⟨v, H', I', r, m v H' q⟩⟩
structure SXt (X : Cx) (st : Stmt) (D : Ends) (σ : L2.St) (H : Hp) : Prop where
  run : ∀ (pins : List (Addr × Obj)) (s : Shared), Inv X pins σ H s → wpAny (model X.prog X.w) X.A (exec st X.env) (SP X pins D) X.xe s
instance {X : Cx} {st : Stmt} {D : Ends} {σ : L2.St} {H : Hp} : CoeFun (SXt X st D σ H) fun _ => ∀ (pins : List (Addr × Obj)) (s : Shared), Inv X pins σ H s → wpAny (model X.prog X.w) X.A (exec st X.env) (SP X pins D) X.xe s := ⟨SXt.run⟩
theorem ps_ex {X : Cx} {st : Stmt} : PS X st (SXt X st) := ⟨fun pins s _ _ _ I h => h pins s I⟩
theorem sx_of {X : Cx} {st : Stmt} {t : TS} {D : Ends} {σ : L2.St} {H : Hp} (p : PS X st t) (h : t D σ H) : SXt X st D σ H := ⟨fun pins s I => p.run pins s σ H D I h⟩
structure BXt (X : Cx) (st : List Stmt) (D : Ends) (σ : L2.St) (H : Hp) : Prop where
  run : ∀ (pins : List (Addr × Obj)) (s : Shared), Inv X pins σ H s → wpAny (model X.prog X.w) X.A (execs st X.env) (SP X pins D) X.xe s
instance {X : Cx} {st : List Stmt} {D : Ends} {σ : L2.St} {H : Hp} : CoeFun (BXt X st D σ H) fun _ => ∀ (pins : List (Addr × Obj)) (s : Shared), Inv X pins σ H s → wpAny (model X.prog X.w) X.A (execs st X.env) (SP X pins D) X.xe s := ⟨BXt.run⟩
theorem pss_ex {X : Cx} {st : List Stmt} : PSs X st (BXt X st) := ⟨fun pins s _ _ _ I h => h pins s I⟩
theorem bx_of {X : Cx} {st : List Stmt} {t : TS} {D : Ends} {σ : L2.St} {H : Hp} (p : PSs X st t) (h : t D σ H) : BXt X st D σ H := ⟨fun pins s I => p.run pins s σ H D I h⟩
abbrev QD := D → Mem → Prop
abbrev EndE (S : Sg) (F N : Hp) (Q : QD) : VK := fun v H' => ∃ d μ', RelM S F N H' μ' ∧ Rp S (vis N H' (adr μ')) v d ∧ Q d μ'
abbrev EndT (S : Sg) (F N : Hp) (Q : Bool → Mem → Prop) : Bool → Hp → Prop := fun b H' => ∃ μ', RelM S F N H' μ' ∧ Q b μ'
abbrev EndA (S : Sg) (F N : Hp) (Q : List D → Mem → Prop) : List V → Hp → Prop := fun vs H' => ∃ ds μ', RelM S F N H' μ' ∧ RpA S (vis N H' (adr μ')) vs ds ∧ Q ds μ'
def EvG (X : Cx) (S : Sg) (e : Expr) (Γ : Gm) (μ : Mem) (Q : QD) : Prop :=
  ∀ F N σ H, RelM S F N H μ → RelS S (vis N H (adr μ)) σ Γ → EXt X e σ H (EndE S F N Q)
def EvT (X : Cx) (S : Sg) (e : Expr) (Γ : Gm) (μ : Mem) (Q : Bool → Mem → Prop) : Prop :=
  ∀ F N σ H, RelM S F N H μ → RelS S (vis N H (adr μ)) σ Γ → TXt X e σ H (EndT S F N Q)
def EvW (X : Cx) (S : Sg) (e : Expr) (Γ : Gm) (μ : Mem) (Q : Bool → Mem → Prop) : Prop :=
  ∀ F N σ H, RelM S F N H μ → RelS S (vis N H (adr μ)) σ Γ → WXt X e σ H (EndT S F N Q)
def EvA (X : Cx) (S : Sg) (es : List Expr) (Γ : Gm) (μ : Mem) (Q : List D → Mem → Prop) : Prop :=
  ∀ F N σ H, RelM S F N H μ → RelS S (vis N H (adr μ)) σ Γ → AXt X es σ H (EndA S F N Q)
structure EG where
  nx : Gm → Mem → Prop
  rt : QD
  bk : Gm → Mem → Prop := fun _ _ => False
  ct : Gm → Mem → Prop := fun _ _ => False
abbrev EndS (S : Sg) (F N : Hp) (P : Gm → Mem → Prop) : L2.St → Hp → Prop := fun σ' H' => ∃ Γ' μ', RelM S F N H' μ' ∧ RelS S (vis N H' (adr μ')) σ' Γ' ∧ P Γ' μ'
abbrev EG.ends (S : Sg) (F N : Hp) (E : EG) : Ends := ⟨EndS S F N E.nx, EndE S F N E.rt, EndS S F N E.bk, EndS S F N E.ct⟩
def StG (X : Cx) (S : Sg) (st : Stmt) (Γ : Gm) (μ : Mem) (E : EG) : Prop :=
  ∀ F N σ H, RelM S F N H μ → RelS S (vis N H (adr μ)) σ Γ → SXt X st (E.ends S F N) σ H
def BlG (X : Cx) (S : Sg) (st : List Stmt) (Γ : Gm) (μ : Mem) (E : EG) : Prop :=
  ∀ F N σ H, RelM S F N H μ → RelS S (vis N H (adr μ)) σ Γ → BXt X st (E.ends S F N) σ H
section
variable {X : Cx} {S : Sg} {e : Expr} {es : List Expr} {st : Stmt} {sts : List Stmt} {Γ : Gm} {μ : Mem} {F N H : Hp} {σ : L2.St}
theorem EvG.use {Q : QD} {P : VK} (h : EvG X S e Γ μ Q) (r : RelM S F N H μ) (rs : RelS S (vis N H (adr μ)) σ Γ)
    (k : ∀ v H' d μ', RelM S (vis N H (adr μ)) N H' μ' → RelS S (vis N H' (adr μ')) σ Γ → Rp S (vis N H' (adr μ')) v d → Q d μ' → P v H') : EXt X e σ H P :=
  (h (vis N H (adr μ)) N σ H r.top rs).mono fun v H' ⟨d, μ', r', rd, q⟩ => k v H' d μ' r' (rs.ext r'.ext) rd q
theorem EvT.use {Q : Bool → Mem → Prop} {P : Bool → Hp → Prop} (h : EvT X S e Γ μ Q) (r : RelM S F N H μ) (rs : RelS S (vis N H (adr μ)) σ Γ)
    (k : ∀ b H' μ', RelM S (vis N H (adr μ)) N H' μ' → RelS S (vis N H' (adr μ')) σ Γ → Q b μ' → P b H') : TXt X e σ H P :=
  (h (vis N H (adr μ)) N σ H r.top rs).mono fun v H' ⟨μ', r', q⟩ => k v H' μ' r' (rs.ext r'.ext) q
theorem EvA.use {Q : List D → Mem → Prop} {P : List V → Hp → Prop} (h : EvA X S es Γ μ Q) (r : RelM S F N H μ) (rs : RelS S (vis N H (adr μ)) σ Γ)
    (k : ∀ vs H' ds μ', RelM S (vis N H (adr μ)) N H' μ' → RelS S (vis N H' (adr μ')) σ Γ → RpA S (vis N H' (adr μ')) vs ds → Q ds μ' → P vs H') : AXt X es σ H P :=
  (h (vis N H (adr μ)) N σ H r.top rs).mono fun v H' ⟨d, μ', r', rd, q⟩ => k v H' d μ' r' (rs.ext r'.ext) rd q
theorem EvG.mono {Q Q' : QD} (h : EvG X S e Γ μ Q) (m : ∀ d μ', Q d μ' → Q' d μ') : EvG X S e Γ μ Q' := fun F N σ H r rs =>
  (h F N σ H r rs).mono fun _ _ ⟨d, μ', r', rd, q⟩ => ⟨d, μ', r', rd, m d μ' q⟩
end
end GL
namespace GL
open PySem L2 PySem.Spec PyProof.Rows
section
variable {S : Sg0} {F N H H' : Hp} {μ : Mem} {p a : Addr} {o : HO}
theorem adr_some (r : RelM0 S F N H μ) (h : a ∈ adr μ) : ∃ o, H a = some o := by
  obtain ⟨q, hq, rfl⟩ := List.mem_map.mp h
  obtain ⟨o, e, _⟩ := r.mem q hq
  exact ⟨o, e⟩
theorem adr_new (r : RelM0 S F N H μ) (hp : H p = none) : p ∉ adr μ := fun h => by
  obtain ⟨o, e⟩ := adr_some r h
  rw [hp] at e
  cases e
theorem hid_new (r : RelM0 S F N H μ) (hp : H p = none) : N p = none := by
  cases q : N p with
  | none => rfl
  | some o =>
    have := r.hid p o q
    rw [hp] at this
    cases this
theorem vis_new (r : RelM0 S F N H μ) (hp : H p = none) : Ex (vis N H (adr μ)) (vis N (upd H p o) (adr μ)) := fun b u e => by
  obtain ⟨h1, h2, h3⟩ := vis_in e
  exact vis_mk (by rw [upd_ne (ne_of_none h3 hp)]; exact h3) h1 h2
theorem RelM0.alloc (r : RelM0 S F N H μ) (hp : H p = none) : RelM0 S F N (upd H p o) μ where
  hid := fun b u e => by
    have e' := r.hid b u e
    rw [upd_ne (ne_of_none e' hp)]
    exact e'
  dis := r.dis
  tup := r.tup
  ext := r.ext.trans (vis_new r hp)
  nd := r.nd
  mem := fun q hq => by
    obtain ⟨u, e, m⟩ := r.mem q hq
    exact ⟨u, by rw [upd_ne (ne_of_none e hp)]; exact e, m.ext (vis_new r hp)⟩
theorem alloc_at (r : RelM0 S F N H μ) (hp : H p = none) : vis N (upd H p o) (adr μ) p = some o := vis_mk upd_same (hid_new r hp) (adr_new r hp)
theorem vis_same {m : M} (r : RelM0 S F N H μ) (hp : H p = none) : Ex (vis N H (adr μ)) (vis N (upd H p o) (adr ((p, m) :: μ))) := fun b u e => by
  obtain ⟨h1, h2, h3⟩ := vis_in e
  have ne : b ≠ p := ne_of_none h3 hp
  exact vis_mk (by rw [upd_ne ne]; exact h3) h1 (by
    show b ∉ p :: adr μ
    simp only [List.mem_cons, not_or]
    exact ⟨ne, h2⟩)
theorem RelM0.allocM {m : M} (r : RelM0 S F N H μ) (hp : H p = none) (hm : RpM S (vis N H (adr μ)) m o) : RelM0 S F N (upd H p o) ((p, m) :: μ) where
  hid := fun b u e => by
    have e' := r.hid b u e
    rw [upd_ne (ne_of_none e' hp)]
    exact e'
  dis := fun b hb => by
    rcases List.mem_cons.mp hb with rfl | hb
    · exact hid_new r hp
    · exact r.dis b hb
  ext := r.ext.trans (vis_same r hp)
  tup := r.tup
  nd := List.nodup_cons.mpr ⟨adr_new r hp, r.nd⟩
  mem := fun q hq => by
    rcases List.mem_cons.mp hq with rfl | hq
    · exact ⟨o, upd_same, hm.ext (vis_same r hp)⟩
    · obtain ⟨u, e, m⟩ := r.mem q hq
      exact ⟨u, by rw [upd_ne (ne_of_none e hp)]; exact e, m.ext (vis_same r hp)⟩
end
inductive Upd (a : Addr) (m m' : M) : Mem → Mem → Prop
  | here {r : Mem} : Upd a m m' ((a, m) :: r) ((a, m') :: r)
  | there {p : Addr × M} {r r' : Mem} : Upd a m m' r r' → Upd a m m' (p :: r) (p :: r')
theorem Upd.adr {a : Addr} {m m' : M} {μ μ' : Mem} (u : Upd a m m' μ μ') : adr μ' = adr μ := by
  induction u with
  | here => rfl
  | there _ ih => exact congrArg (_ :: ·) ih
theorem Upd.mem {a : Addr} {m m' : M} {μ μ' : Mem} (u : Upd a m m' μ μ') : (a, m) ∈ μ := by
  induction u with
  | here => exact .head _
  | there _ ih => exact .tail _ ih
theorem Upd.out {a : Addr} {m m' : M} {μ μ' : Mem} (u : Upd a m m' μ μ') : ∀ q ∈ μ', q = (a, m') ∨ (q ∈ μ) := by
  induction u with
  | here => intro q hq; rcases List.mem_cons.mp hq with h | h; exact .inl h; exact .inr (.tail _ h)
  | there _ ih => intro q hq; rcases List.mem_cons.mp hq with h | h; exact .inr (h ▸ .head _); exact (ih q h).imp id (.tail _)
theorem Upd.out' {a : Addr} {m m' : M} {μ μ' : Mem} (u : Upd a m m' μ μ') (nd : (GL.adr μ).Nodup) : ∀ q ∈ μ', q = (a, m') ∨ (q ∈ μ ∧ q.1 ≠ a) := by
  induction u with
  | @here r =>
    intro q hq
    rcases List.mem_cons.mp hq with h | h
    · exact .inl h
    · refine .inr ⟨.tail _ h, fun e => ?_⟩
      have h1 : a ∉ GL.adr r := (List.nodup_cons.mp nd).1
      exact h1 (e ▸ List.mem_map_of_mem h)
  | @there p r r' u ih =>
    intro q hq
    rcases List.mem_cons.mp hq with h | h
    · refine .inr ⟨h ▸ .head _, fun e => ?_⟩
      have h1 : p.1 ∉ GL.adr r := (List.nodup_cons.mp nd).1
      rw [h] at e
      rw [e] at h1
      exact h1 (List.mem_map_of_mem u.mem)
    · rcases ih (List.nodup_cons.mp nd).2 q h with z | ⟨z, y⟩
      · exact .inl z
      · exact .inr ⟨.tail _ z, y⟩
section
variable {S : Sg0} {F N H H' : Hp} {μ μ' : Mem} {p a : Addr} {o : HO} {m m' : M}
theorem RelM0.find (r : RelM0 S F N H μ) (h : (a, m) ∈ μ) : ∃ o, H a = some o ∧ RpM S (vis N H (adr μ)) m o := r.mem (a, m) h
theorem vis_upd (h : a ∈ adr μ) : vis N (upd H a o) (adr μ) = vis N H (adr μ) := by
  funext b
  unfold vis
  by_cases hb : b = a
  · subst hb
    rw [if_pos (.inr h), if_pos (.inr h)]
  · rw [upd_ne hb]
theorem RelM0.put (r : RelM0 S F N H μ) (u : Upd a m m' μ μ') (hm : RpM S (vis N H (adr μ)) m' o) : RelM0 S F N (L2.upd H a o) μ' := by
  have ha : a ∈ adr μ := List.mem_map_of_mem u.mem
  have hN : N a = none := r.dis a ha
  refine ⟨fun b v e => ?_, by rw [u.adr]; exact r.dis, by rw [u.adr, vis_upd ha]; exact r.ext, by rw [u.adr]; exact r.nd, fun q hq => ?_, r.tup⟩
  · by_cases hb : b = a
    · subst hb
      rw [hN] at e
      cases e
    · rw [upd_ne hb]
      exact r.hid b v e
  · rw [u.adr, vis_upd ha]
    rcases u.out' r.nd q hq with rfl | ⟨hq, hne⟩
    · exact ⟨o, upd_same, hm⟩
    · obtain ⟨v, e, hv⟩ := r.mem q hq
      exact ⟨v, by rw [upd_ne hne]; exact e, hv⟩
end
inductive Del (a : Addr) (m : M) : Mem → Mem → Prop
  | here {r : Mem} : Del a m ((a, m) :: r) r
  | there {p : Addr × M} {r r' : Mem} : Del a m r r' → Del a m (p :: r) (p :: r')
theorem Del.mem {a : Addr} {m : M} {μ μ' : Mem} (u : Del a m μ μ') : (a, m) ∈ μ := by
  induction u with
  | here => exact .head _
  | there _ ih => exact .tail _ ih
theorem Del.sub {a : Addr} {m : M} {μ μ' : Mem} (u : Del a m μ μ') : ∀ q ∈ μ', q ∈ μ := by
  induction u with
  | here => exact fun q h => .tail _ h
  | there _ ih => intro q hq; rcases List.mem_cons.mp hq with h | h; exact h ▸ .head _; exact .tail _ (ih q h)
theorem Del.adrs {a : Addr} {m : M} {μ μ' : Mem} (u : Del a m μ μ') (nd : (adr μ).Nodup) : (adr μ').Nodup ∧ ∀ b, b ∈ adr μ' ↔ (b ∈ adr μ ∧ b ≠ a) := by
  induction u with
  | @here r =>
    refine ⟨(List.nodup_cons.mp nd).2, fun b => ⟨fun h => ⟨.tail _ h, fun e => (List.nodup_cons.mp nd).1 (e ▸ h)⟩, fun h => ?_⟩⟩
    rcases List.mem_cons.mp h.1 with e | h'
    · exact absurd e h.2
    · exact h'
  | @there p r r' u ih =>
    obtain ⟨i1, i2⟩ := ih (List.nodup_cons.mp nd).2
    have hp := (List.nodup_cons.mp nd).1
    have hpa : p.1 ≠ a := fun e => hp (by
      have z : a ∈ adr r := List.mem_map_of_mem u.mem
      rw [← e] at z
      exact z)
    refine ⟨List.nodup_cons.mpr ⟨fun h => hp ((i2 _).mp h).1, i1⟩, fun b => ⟨fun h => ?_, fun h => ?_⟩⟩
    · rcases List.mem_cons.mp h with e | h'
      · exact ⟨e ▸ .head _, e ▸ hpa⟩
      · exact ⟨.tail _ ((i2 b).mp h').1, ((i2 b).mp h').2⟩
    · rcases List.mem_cons.mp h.1 with e | h'
      · exact e ▸ .head _
      · exact .tail _ ((i2 b).mpr ⟨h', h.2⟩)
section
variable {S : Sg0} {F N H H' : Hp} {μ μ' : Mem} {p a : Addr} {o : HO} {m m' : M}
theorem vis_del (r : RelM0 S F N H μ) (u : Del a m μ μ') : Ex (vis N H (adr μ)) (vis N H (adr μ')) := fun b v e => by
  obtain ⟨h1, h2, h3⟩ := vis_in e
  exact vis_mk h3 h1 fun z => h2 (((u.adrs r.nd).2 b).mp z).1
theorem RelM0.del (r : RelM0 S F N H μ) (u : Del a m μ μ') : RelM0 S F N H μ' :=
  ⟨r.hid, fun b hb => r.dis b (((u.adrs r.nd).2 b).mp hb).1, r.ext.trans (vis_del r u), (u.adrs r.nd).1, fun q hq => by
    obtain ⟨v, e, hv⟩ := r.mem q (u.sub q hq)
    exact ⟨v, e, hv.ext (vis_del r u)⟩, r.tup⟩
theorem RelM0.froz {ds : List D} (r : RelM0 S F N H μ) (u : Del a (.lst ds) μ μ') : Rp S (vis N H (adr μ')) (.ref a) (.lst ds) := by
  obtain ⟨o, e, hm⟩ := r.find u.mem
  cases hm with
  | lst h =>
    refine .lst (vis_mk e (r.dis a (List.mem_map_of_mem u.mem)) fun z => (((u.adrs r.nd).2 a).mp z).2 rfl) (h.ext (vis_del r u))
theorem RpF.zip {Hv : Hp} : ∀ {ns : List Str} {ds : List D} {vs : List (Str × V)}, ns.length = ds.length → RpF S Hv vs (ns.zip ds) → ∃ ws, vs = ns.zip ws ∧ ws.length = ns.length ∧ RpA S Hv ws ds
  | [], [], _, _, h => by
    cases h
    exact ⟨[], rfl, rfl, .nil⟩
  | [], _ :: _, _, e, _ => by simp at e
  | _ :: _, [], _, e, _ => by simp at e
  | n :: ns, d :: ds, _, e, h => by
    cases h with
    | cons h t =>
      obtain ⟨ws, e1, e2, e3⟩ := RpF.zip (ns := ns) (ds := ds) (by simpa using e) t
      exact ⟨_ :: ws, by rw [e1]; rfl, by simp [e2], .cons h e3⟩
theorem RelM0.frozI {c : Nat} {ds : List D} (r : RelM0 S F N H μ) (u : Del a (.ins (S.cls c) ((S.nms c).zip ds)) μ μ') (hl : (S.nms c).length = ds.length) : Rp S (vis N H (adr μ')) (.ref a) (.obj c ds) := by
  obtain ⟨o, e, hm⟩ := r.find u.mem
  cases hm with
  | ins h =>
    obtain ⟨ws, e1, e2, e3⟩ := h.zip hl
    subst e1
    exact .obj (vis_mk e (r.dis a (List.mem_map_of_mem u.mem)) fun z => (((u.adrs r.nd).2 a).mp z).2 rfl) e2 (e3.ext (vis_del r u))
end
section
variable {S : Sg} {F N H H' : Hp} {μ μ' : Mem} {p a : Addr} {o : HO} {m m' : M}
theorem RelM.alloc (r : RelM S F N H μ) (hp : H p = none) : RelM S F N (upd H p o) μ := ⟨r.toRelM0.alloc hp, r.iv⟩
theorem RelM.allocM (r : RelM S F N H μ) (hp : H p = none) (hm : RpM S (vis N H (adr μ)) m o) : RelM S F N (upd H p o) ((p, m) :: μ) := ⟨r.toRelM0.allocM hp hm, r.iv⟩
theorem RelM.put (r : RelM S F N H μ) (u : Upd a m m' μ μ') (hm : RpM S (vis N H (adr μ)) m' o) : RelM S F N (L2.upd H a o) μ' := ⟨r.toRelM0.put u hm, r.iv⟩
theorem RelM.del (r : RelM S F N H μ) (u : Del a m μ μ') : RelM S F N H μ' := ⟨r.toRelM0.del u, r.iv⟩
end
inductive Drf (μ : Mem) : D → List D → Prop
  | val (l : List D) : Drf μ (.lst l) l
  | ref {a : Addr} {l : List D} : (a, M.lst l) ∈ μ → Drf μ (.ref a) l
inductive DrfT (μ : Mem) : D → List D → Prop
  | l {d : D} {ds : List D} : Drf μ d ds → DrfT μ d ds
  | t (l : List D) : DrfT μ (.tup l) l
theorem Drf.at {S : Sg0} {F N H : Hp} {μ : Mem} {d : D} {l : List D} {x : V} (h : Drf μ d l) (r : RelM0 S F N H μ) (rx : Rp S (vis N H (adr μ)) x d) : ∃ a xs, x = .ref a ∧ H a = some (.lst xs) ∧ RpA S (vis N H (adr μ)) xs l := by
  cases h with
  | val l =>
    cases rx with
    | lst h hs => exact ⟨_, _, rfl, vis_le _ _ h, hs⟩
  | ref hm =>
    cases rx
    obtain ⟨o, e, hm⟩ := r.find hm
    cases hm with
    | lst h => exact ⟨_, _, rfl, e, h⟩
mutual
def D.py : D → PyData
  | .non => .none
  | .bl b => .bool b
  | .int i => .int i
  | .str x => .str x
  | .lst l => .list (D.pyA l)
  | .tup l => .tuple (D.pyA l)
  | _ => .none
def D.pyA : List D → List PyData
  | [] => []
  | d :: l => D.py d :: D.pyA l
end
mutual
def D.ok : Nat → D → Bool
  | _, .non => true
  | _, .bl _ => true
  | _, .int _ => true
  | _, .str x => PyData.strOk x
  | n + 1, .lst l => D.okA n l
  | n + 1, .tup l => D.okA n l
  | _, _ => false
def D.okA : Nat → List D → Bool
  | _, [] => true
  | n, d :: l => D.ok n d && D.okA n l
end
theorem D.okA_all : ∀ {n : Nat} {l : List D}, D.okA n l = true ↔ ∀ d ∈ l, D.ok n d = true
  | n, [] => by simp [D.okA]
  | n, d :: l => by simp [D.okA, D.okA_all (l := l)]
mutual
theorem D.ok_lay : ∀ {n : Nat} {d : D}, D.ok n d = true → (D.py d).canLay0 = true ∧ (D.py d).depth ≤ n
  | n, .non, _ => by cases n <;> simp [D.py, PyData.canLay0, PyData.depth]
  | n, .bl b, _ => by cases n <;> simp [D.py, PyData.canLay0, PyData.depth]
  | n, .int i, _ => by cases n <;> simp [D.py, PyData.canLay0, PyData.depth]
  | n, .str x, h => by
    cases n <;> simp [D.ok] at h <;> simp [D.py, PyData.canLay0, PyData.depth, h]
  | 0, .lst l, h => by simp [D.ok] at h
  | n + 1, .lst l, h => by
    have := D.okA_lay (n := n) (l := l) (by simpa [D.ok] using h)
    refine ⟨by simp [D.py, PyData.canLay0, this.1], ?_⟩
    simp only [D.py, PyData.depth]
    have := this.2
    omega
  | 0, .tup l, h => by simp [D.ok] at h
  | n + 1, .tup l, h => by
    have := D.okA_lay (n := n) (l := l) (by simpa [D.ok] using h)
    refine ⟨by simp [D.py, PyData.canLay0, this.1], ?_⟩
    simp only [D.py, PyData.depth]
    have := this.2
    omega
  | n, .obj c l, h => by cases n <;> simp [D.ok] at h
  | n, .ref a, h => by cases n <;> simp [D.ok] at h
  | n, .scr a, h => by cases n <;> simp [D.ok] at h
  | n, .ty a, h => by cases n <;> simp [D.ok] at h
theorem D.okA_lay : ∀ {n : Nat} {l : List D}, D.okA n l = true → PyData.canLayAll0 (D.pyA l) = true ∧ PyData.depthAll (D.pyA l) ≤ n
  | n, [], _ => by simp [D.pyA, PyData.canLayAll0, PyData.depthAll]
  | n, d :: l, h => by
    have h' : D.ok n d = true ∧ D.okA n l = true := by simpa [D.okA] using h
    have h1 := D.ok_lay h'.1
    have h2 := D.okA_lay h'.2
    refine ⟨by simp [D.pyA, PyData.canLayAll0, h1.1, h2.1], ?_⟩
    simp only [D.pyA, PyData.depthAll]
    have := h1.2
    have := h2.2
    omega
end
theorem D.shaped {n : Nat} {d : D} (h : D.ok n d = true) (hn : n ≤ 60) : SeqAt.shaped (D.py d) = true := by
  have := D.ok_lay h
  show ((D.py d).canLay0 && decide ((D.py d).depth ≤ 64)) = true
  rw [this.1, Bool.true_and]
  exact decide_eq_true (by have := this.2; omega)
mutual
theorem Rp.dp {S : Sg0} {H : Hp} : ∀ {n : Nat} {d : D} {v : V}, D.ok n d = true → Rp S H v d → Dp S.K H v (D.py d)
  | _, .non, _, _, h => by cases h; simp only [D.py]; exact .non
  | _, .bl b, _, _, h => by cases h; simp only [D.py]; exact .bl b
  | _, .int i, _, _, h => by cases h; simp only [D.py]; exact .int i
  | _, .str x, _, _, h => by cases h; simp only [D.py]; exact .str x
  | 0, .lst l, _, e, h => by simp [D.ok] at e
  | n + 1, .lst l, _, e, h => by
    cases h with
    | lst h hs => simp only [D.py]; exact .lst (SqL.of h) (RpA.dp (n := n) (by simpa [D.ok] using e) hs)
  | 0, .tup l, _, e, h => by simp [D.ok] at e
  | n + 1, .tup l, _, e, h => by
    cases h with
    | tup h hs => simp only [D.py]; exact .tup h (RpA.dp (n := n) (by simpa [D.ok] using e) hs)
  | n, .obj c l, _, e, h => by cases n <;> simp [D.ok] at e
  | n, .ref a, _, e, h => by cases n <;> simp [D.ok] at e
  | n, .scr a, _, e, h => by cases n <;> simp [D.ok] at e
  | n, .ty a, _, e, h => by cases n <;> simp [D.ok] at e
theorem RpA.dp {S : Sg0} {H : Hp} : ∀ {n : Nat} {ds : List D} {vs : List V}, D.okA n ds = true → RpA S H vs ds → DpAll S.K H vs (D.pyA ds)
  | _, [], _, _, h => by cases h; simp only [D.pyA]; exact .nil
  | n, d :: ds, _, e, h => by
    have e' : D.ok n d = true ∧ D.okA n ds = true := by simpa [D.okA] using e
    cases h with
    | cons h t => simp only [D.pyA]; exact .cons (Rp.dp e'.1 h) (RpA.dp e'.2 t)
end
def D.eqv (d e : D) : Bool := PyData.eqv (D.py d) (D.py e)
end GL
namespace GL
open PySem L2 PySem.Spec PyProof.Rows
def OPt (X : Cx) (f : Value → Value → Sem Value) : R2 := fun x y H Q => ∀ (pins : List (Addr × Obj)) (s : Shared) (σ : L2.St) (v u : Value), Inv X pins σ H s → RelV x v → RelV y u → wpAny (model X.prog X.w) X.A (f v u) (EP X pins σ Q) X.xe s
theorem opr_self {X : Cx} {f : Value → Value → Sem Value} : OpR X f (OPt X f) := fun pins s σ _ _ _ v u _ I rx ry h => h pins s σ v u I rx ry
theorem op_of {X : Cx} {f : Value → Value → Sem Value} {r : R2} {x y : V} {H : Hp} {Q : VK} (h : OpR X f r) (q : r x y H Q) : OPt X f x y H Q := fun pins s σ v u I rx ry => h pins s σ H x y v u Q I rx ry q
def UNt (X : Cx) (f : Value → Sem Value) : V → Hp → VK → Prop := fun x H Q => ∀ (pins : List (Addr × Obj)) (s : Shared) (σ : L2.St) (v : Value), Inv X pins σ H s → RelV x v → wpAny (model X.prog X.w) X.A (f v) (EP X pins σ Q) X.xe s
def CPt (X : Cx) (f : Value) : List V → Hp → VK → Prop := fun xs H Q => ∀ (pins : List (Addr × Obj)) (s : Shared) (σ : L2.St) (us : List Value), Inv X pins σ H s → Vals xs us → wpAny (model X.prog X.w) X.A (call f us) (EP X pins σ Q) X.xe s
theorem cpr_self {X : Cx} {f : Value} : CallR X f (CPt X f) := fun pins s σ _ _ us _ I r h => h pins s σ us I r
theorem cp_of {X : Cx} {f : Value} {r : List V → Hp → VK → Prop} {xs : List V} {H : Hp} {Q : VK} (h : CallR X f r) (q : r xs H Q) : CPt X f xs H Q := fun pins s σ us I rv => h pins s σ H xs us Q I rv q
def OpG (X : Cx) (S : Sg) (f : Value → Value → Sem Value) (d1 d2 : D) (μ : Mem) (Q : QD) : Prop :=
  ∀ F N H x y, RelM S F N H μ → Rp S (vis N H (adr μ)) x d1 → Rp S (vis N H (adr μ)) y d2 → OPt X f x y H (EndE S F N Q)
def UnG (X : Cx) (S : Sg) (f : Value → Sem Value) (d1 : D) (μ : Mem) (Q : QD) : Prop :=
  ∀ F N H x, RelM S F N H μ → Rp S (vis N H (adr μ)) x d1 → UNt X f x H (EndE S F N Q)
def CallG (X : Cx) (S : Sg) (f : Value) (ds : List D) (μ : Mem) (Q : QD) : Prop :=
  ∀ F N H xs, RelM S F N H μ → RpA S (vis N H (adr μ)) xs ds → CPt X f xs H (EndE S F N Q)
theorem OpG.mono {X : Cx} {S : Sg} {f : Value → Value → Sem Value} {d1 d2 : D} {μ : Mem} {Q Q' : QD} (h : OpG X S f d1 d2 μ Q) (m : ∀ d μ', Q d μ' → Q' d μ') : OpG X S f d1 d2 μ Q' := fun F N H x y r rx ry pins s σ v u I rv ru =>
  thn (h F N H x y r rx ry pins s σ v u I rv ru) fun _ _ ⟨z, H', I', rz, d, μ', r', rd, q⟩ => ⟨z, H', I', rz, d, μ', r', rd, m _ _ q⟩
section
variable {X : Cx} {S : Sg} {a b c e : Expr} {es rest : List Expr} {Γ : Gm} {μ : Mem} {Q : QD} {T : Bool → Mem → Prop} {x : Str} {pos p : Pos} {d : D}
theorem ev_name {i : Nat} (hN : X.N[i]? = some x) (hv : Vis X.env.scope x) (hΓ : Γ[i]? = some (some d)) (k : Q d μ) (hd : (x == ("__debug__" : Str)) = false := by decide) (hcd : (x == ("__classdict__" : Str)) = false := by decide) : EvG X S (.Name x pos) Γ μ Q :=
  fun F N σ H r rs => let ⟨v, hv', rv⟩ := RelS.get rs hΓ; ex_of (pe_var hN hv hd hcd) ⟨v, hv', d, μ, r, rv, k⟩
theorem ev_int {i : Int} {j} (k : Q (.int i) μ) : EvG X S (.Constant (.int i) j pos) Γ μ Q := fun F N σ H r rs => ex_of pe_int ⟨_, μ, r, .int i, k⟩
theorem ev_bl {i : Bool} {j} (k : Q (.bl i) μ) : EvG X S (.Constant (.bool i) j pos) Γ μ Q := fun F N σ H r rs => ex_of pe_bl ⟨_, μ, r, .bl i, k⟩
theorem ev_str {i : Str} {j} (k : Q (.str i) μ) : EvG X S (.Constant (.str i) j pos) Γ μ Q := fun F N σ H r rs => ex_of pe_str ⟨_, μ, r, .str i, k⟩
theorem ev_globR {u : Addr} (hg : Gl X x) (hm : X.mg x = some (.ref u)) (k : Q (.ref u) μ) (hd : (x == ("__debug__" : Str)) = false := by decide) : EvG X S (.Name x pos) Γ μ Q :=
  fun F N σ H r rs => ex_of (pe_glob (v := .ref u) hg hm rfl hd) ⟨_, μ, r, .ref u, k⟩
theorem ev_bty {n : String} (hg : Gl X x) (hm : X.mg x = none) (hv : bootBuiltins x = some (.type n)) (k : Q (.ty n) μ) (hn : x ≠ "__name__" := by decide) (hd : (x == ("__debug__" : Str)) = false := by decide) : EvG X S (.Name x pos) Γ μ Q :=
  fun F N σ H r rs => ex_of (pe_bltn (v := .ty n) hg hm hv rfl hn hd) ⟨_, μ, r, .ty n, k⟩
theorem ev_bin {op : Operator} (h : EvG X S a Γ μ fun d1 μ1 => EvG X S b Γ μ1 fun d2 μ2 => OpG X S (binaryOp op) d1 d2 μ2 Q) : EvG X S (.BinOp a op b pos) Γ μ Q := by
  intro F N σ H r rs
  refine ex_of (pe_op opr_self pe_ex pe_ex) ?_
  refine h.use r rs fun x H1 d1 μ1 r1 rs1 rx hb => ?_
  refine hb.use r1 rs1 fun y H2 d2 μ2 r2 rs2 ry ho => ?_
  exact ho F N H2 x y (r2.weakF (r.ext.trans r1.ext)) (rx.ext r2.ext) ry
theorem ev_cmp {op : CmpOp} (h : EvG X S a Γ μ fun d1 μ1 => EvG X S b Γ μ1 fun d2 μ2 => OpG X S (compareOp op) d1 d2 μ2 Q) (hm : behindInMarks op b = false := by first | exact nobehind _ (by decide) (by decide) | rfl) : EvG X S (.Compare a [op] [b] pos) Γ μ Q := by
  intro F N σ H r rs
  refine ex_of (pe_cmpR opr_self pe_ex pe_ex hm) ?_
  refine h.use r rs fun x H1 d1 μ1 r1 rs1 rx hb => ?_
  refine hb.use r1 rs1 fun y H2 d2 μ2 r2 rs2 ry ho => ?_
  exact ho F N H2 x y (r2.weakF (r.ext.trans r1.ext)) (rx.ext r2.ext) ry
abbrev QB (T : Bool → Mem → Prop) : QD := fun d μ' => ∃ b, d = .bl b ∧ T b μ'
theorem endT_of {F N H : Hp} {v : V} (h : EndE S F N (QB T) v H) : ∃ c, v = .bl c ∧ EndT S F N T c H := by
  obtain ⟨d, μ', r, rd, b, e, q⟩ := h
  subst e
  cases rd
  exact ⟨b, rfl, μ', r, q⟩
theorem et_cmp {op : CmpOp} (h : EvG X S a Γ μ fun d1 μ1 => EvG X S b Γ μ1 fun d2 μ2 => OpG X S (compareOp op) d1 d2 μ2 (QB T)) (hm : behindInMarks op b = false := by first | exact nobehind _ (by decide) (by decide) | rfl) : EvT X S (.Compare a [op] [b] pos) Γ μ T := by
  intro F N σ H r rs
  refine tx_of (pt_cmpR opr_self pe_ex pe_ex hm) ?_
  refine EXt.mono (h.use (P := fun v H1 => EXt X b σ H1 fun y H2 => OPt X (compareOp op) v y H2 (EndE S F N (QB T))) r rs fun x H1 d1 μ1 r1 rs1 rx hb => ?_) fun v H1 q => q.mono fun y H2 q2 => ?_
  · refine hb.use r1 rs1 fun y H2 d2 μ2 r2 rs2 ry ho => ?_
    exact ho F N H2 x y (r2.weakF (r.ext.trans r1.ext)) (rx.ext r2.ext) ry
  · intro pins s σ' v u I rx ry
    exact thn (q2 pins s σ' v u I rx ry) fun _ _ ⟨z, H', I', rz, q⟩ => ⟨z, H', I', rz, endT_of q⟩
theorem et_val (h : EvG X S e Γ μ (QB T)) (he : ∀ whole, isTrue e X.env whole = (do let v ← whole; standAt e.pos; holding [v] (truthy v)) := by intro _; rfl) : EvT X S e Γ μ T := by
  intro F N σ H r rs
  exact tx_of (pt_val pe_ex he) ((h F N σ H r rs).mono fun v H' q => endT_of q)
theorem et_not (h : EvT X S a Γ μ fun b μ' => T (!b) μ') : EvT X S (.UnaryOp .Not a pos) Γ μ T := by
  intro F N σ H r rs
  exact tx_of (pt_not pt_ex) ((h F N σ H r rs).mono fun v H' q => q)
theorem et_w (h : EvW X S e Γ μ T) : EvT X S e Γ μ T := fun F N σ H r rs => ⟨fun pins s I => h F N σ H r rs _ pins s I⟩
theorem ew_or1 (h : EvT X S a Γ μ T) : EvW X S (.BoolOp .Or [a] pos) Γ μ T := fun F N σ H r rs => wx_of (pw_or1 pt_ex) (h F N σ H r rs)
theorem ew_or (h : EvT X S a Γ μ fun c μ1 => (c = false → EvW X S (.BoolOp .Or (b :: rest) pos) Γ μ1 T) ∧ (c = true → T true μ1)) : EvW X S (.BoolOp .Or (a :: b :: rest) pos) Γ μ T := by
  intro F N σ H r rs
  refine wx_of (pw_or pt_ex pw_ex) (h.use r rs fun c H1 μ1 r1 rs1 q => ?_)
  cases c with
  | false => exact q.1 rfl F N σ H1 (r1.weakF r.ext) rs1
  | true => exact ⟨μ1, r1.weakF r.ext, q.2 rfl⟩
theorem ev_and1 (h : EvG X S a Γ μ Q) {op} : EvG X S (.BoolOp op [a] pos) Γ μ Q := fun F N σ H r rs => ex_of (pe_one pe_ex) (h F N σ H r rs)
theorem ev_and (h : EvG X S a Γ μ fun d μ1 => ∃ c, d = .bl c ∧ (c = true → EvG X S (.BoolOp .And (b :: rest) pos) Γ μ1 Q) ∧ (c = false → Q (.bl false) μ1)) : EvG X S (.BoolOp .And (a :: b :: rest) pos) Γ μ Q := by
  intro F N σ H r rs
  refine ex_of (pe_and pe_ex pe_ex) (h.use r rs fun v H1 d μ1 r1 rs1 rd q => ?_)
  obtain ⟨c, e, q1, q2⟩ := q
  subst e
  cases rd
  refine ⟨c, rfl, ?_⟩
  cases c with
  | true => exact q1 rfl F N σ H1 (r1.weakF r.ext) rs1
  | false => exact ⟨_, μ1, r1.weakF r.ext, .bl false, q2 rfl⟩
theorem ea_nil {Q : List D → Mem → Prop} (k : Q [] μ) : EvA X S [] Γ μ Q := fun F N σ H r rs => ax_of pa_nil ⟨[], μ, r, .nil, k⟩
theorem ea_cons {Q : List D → Mem → Prop} (h : EvG X S e Γ μ fun d μ1 => EvA X S es Γ μ1 fun ds μ2 => Q (d :: ds) μ2) (hs : starEach (e :: es) X.env = (false, eval e X.env) :: starEach es X.env := by rfl) : EvA X S (e :: es) Γ μ Q := by
  intro F N σ H r rs
  refine ax_of (pa_cons pe_ex pa_ex hs) (h.use r rs fun v H1 d μ1 r1 rs1 rd q => ?_)
  refine q.use r1 rs1 fun vs H2 ds μ2 r2 rs2 rds q2 => ?_
  exact ⟨d :: ds, μ2, r2.weakF (r.ext.trans r1.ext), .cons (rd.ext r2.ext) rds, q2⟩
theorem ev_tup {k} (h : EvA X S es Γ μ fun ds μ1 => ds.length ≤ 16777216 ∧ Q (.tup ds) μ1) : EvG X S (.Tuple es k pos) Γ μ Q := by
  intro F N σ H r rs
  refine ex_of (pe_tup pa_ex) (h.use r rs fun vs H1 ds μ1 r1 rs1 rd q => ?_)
  refine ⟨by rw [rd.length, sizeLine_eq]; exact q.1, fun p hp => ?_⟩
  exact ⟨_, μ1, (r1.weakF r.ext).alloc hp, .tup (SqU.of (alloc_at r1.toRelM0 hp)) (rd.ext (vis_new r1.toRelM0 hp)), q.2⟩
theorem ev_lst (h : EvA X S es Γ μ fun ds μ1 => ds.length ≤ 16777216 ∧ Q (.lst ds) μ1) : EvG X S (.List es pos) Γ μ Q := by
  intro F N σ H r rs
  refine ex_of (pe_lst pa_ex) (h.use r rs fun vs H1 ds μ1 r1 rs1 rd q => ?_)
  refine ⟨by rw [rd.length, sizeLine_eq]; exact q.1, fun p hp => ?_⟩
  exact ⟨_, μ1, (r1.weakF r.ext).alloc hp, .lst (alloc_at r1.toRelM0 hp) (rd.ext (vis_new r1.toRelM0 hp)), q.2⟩
theorem ev_lstM (h : EvA X S es Γ μ fun ds μ1 => ds.length ≤ 16777216 ∧ ∀ p, p ∉ adr μ1 → Q (.ref p) ((p, .lst ds) :: μ1)) : EvG X S (.List es pos) Γ μ Q := by
  intro F N σ H r rs
  refine ex_of (pe_lst pa_ex) (h.use r rs fun vs H1 ds μ1 r1 rs1 rd q => ?_)
  refine ⟨by rw [rd.length, sizeLine_eq]; exact q.1, fun p hp => ?_⟩
  exact ⟨_, _, (r1.weakF r.ext).allocM hp (.lst rd), .ref p, q.2 p (adr_new r1.toRelM0 hp)⟩
end
section
variable {X : Cx} {S : Sg} {μ : Mem} {Q : QD} {i j : Int} {x y : Str} {d e : D} {l l' : List D}
theorem og_addI (k : Q (.int (i + j)) μ) : OpG X S (binaryOp .Add) (.int i) (.int j) μ Q := fun F N H u v r ru rv => by cases ru; cases rv; exact op_of op_add ⟨i, j, rfl, rfl, _, μ, r, .int _, k⟩
theorem og_subI (k : Q (.int (i - j)) μ) : OpG X S (binaryOp .Sub) (.int i) (.int j) μ Q := fun F N H u v r ru rv => by cases ru; cases rv; exact op_of op_sub ⟨i, j, rfl, rfl, _, μ, r, .int _, k⟩
theorem og_mulI (c : CMul i j) (k : Q (.int (i * j)) μ) : OpG X S (binaryOp .Mult) (.int i) (.int j) μ Q := fun F N H u v r ru rv => by cases ru; cases rv; exact op_of op_mul ⟨i, j, rfl, rfl, c, _, μ, r, .int _, k⟩
theorem og_modI (c : 0 < j) (k : Q (.int (i % j)) μ) : OpG X S (binaryOp .Mod) (.int i) (.int j) μ Q := fun F N H u v r ru rv => by cases ru; cases rv; exact op_of op_mod ⟨i, j, rfl, rfl, c, _, μ, r, .int _, k⟩
theorem og_powI (c : CPow i j) (k : Q (.int (i ^ j.toNat)) μ) : OpG X S (binaryOp .Pow) (.int i) (.int j) μ Q := fun F N H u v r ru rv => by cases ru; cases rv; exact op_of op_pow ⟨i, j, rfl, rfl, c, _, μ, r, .int _, k⟩
theorem og_addS (hz : x.length + y.length ≤ 16777216) (k : Q (.str (x ++ y)) μ) : OpG X S (binaryOp .Add) (.str x) (.str y) μ Q := fun F N H u v r ru rv => by cases ru; cases rv; exact op_of op_add_str ⟨x, y, rfl, rfl, by rw [sizeLine_eq]; exact hz, _, μ, r, .str _, k⟩
theorem og_addL (h1 : Drf μ d l) (h2 : Drf μ e l') (hz : l.length + l'.length ≤ 16777216) (k : Q (.lst (l ++ l')) μ) : OpG X S (binaryOp .Add) d e μ Q := fun F N H u v r ru rv => by
  obtain ⟨a, xs, rfl, ha, hs⟩ := h1.at r.toRelM0 ru
  obtain ⟨b, ys, rfl, hb, ht⟩ := h2.at r.toRelM0 rv
  refine op_of op_cat ⟨a, b, xs, ys, rfl, rfl, ha, hb, by rw [hs.length, ht.length, sizeLine_eq]; exact hz, fun p hp => ?_⟩
  exact ⟨_, μ, r.alloc hp, .lst (alloc_at r.toRelM0 hp) ((hs.append ht).ext (vis_new r.toRelM0 hp)), k⟩
theorem og_gtI (k : Q (.bl (decide (j < i))) μ) : OpG X S (compareOp .Gt) (.int i) (.int j) μ Q := fun F N H u v r ru rv => by cases ru; cases rv; exact op_of op_gt ⟨i, j, rfl, rfl, _, μ, r, .bl _, k⟩
theorem og_geI (k : Q (.bl (decide (j ≤ i))) μ) : OpG X S (compareOp .GtE) (.int i) (.int j) μ Q := fun F N H u v r ru rv => by cases ru; cases rv; exact op_of op_ge ⟨i, j, rfl, rfl, _, μ, r, .bl _, k⟩
theorem og_eqI (k : Q (.bl (decide (i = j))) μ) : OpG X S (compareOp .Eq) (.int i) (.int j) μ Q := fun F N H u v r ru rv => by cases ru; cases rv; exact op_of op_eq ⟨rfl, _, μ, r, .bl _, by simpa using k⟩
theorem og_neI (k : Q (.bl (!decide (i = j))) μ) : OpG X S (compareOp .NotEq) (.int i) (.int j) μ Q := fun F N H u v r ru rv => by cases ru; cases rv; exact op_of op_ne ⟨rfl, _, μ, r, .bl _, by simpa using k⟩
def Rsv (μ : Mem) (d e : D) : Prop := d = e ∨ ∃ l, Drf μ d l ∧ e = .lst l
theorem Rsv.val {d : D} : Rsv μ d d := .inl rfl
theorem Rsv.mem {a : Addr} (h : (a, M.lst l) ∈ μ) : Rsv μ (.ref a) (.lst l) := .inr ⟨l, .ref h, rfl⟩
theorem Rsv.dp {n : Nat} {F N H : Hp} {d e : D} {v : V} (h : Rsv μ d e) (ho : D.ok n e = true) (r : RelM S F N H μ) (rv : Rp S (vis N H (adr μ)) v d) : Dp S.K H v (D.py e) := by
  rcases h with rfl | ⟨l, h, rfl⟩
  · exact (rv.ext vis_le).dp ho
  · obtain ⟨a, xs, rfl, ha, hs⟩ := h.at r.toRelM0 rv
    exact Rp.dp ho (.lst ha (hs.ext vis_le))
theorem og_eqD {n m : Nat} {d' e' : D} (hK : X.K = S.K) (hu : X.A.units + 65 < cLine) (h1 : Rsv μ d d') (h2 : Rsv μ e e') (o1 : D.ok n d' = true) (o2 : D.ok m e' = true) (n1 : n ≤ 60) (n2 : m ≤ 60) (k : Q (.bl (D.eqv d' e')) μ) : OpG X S (compareOp .Eq) d e μ Q := fun F N H u v r ru rv => by
  refine op_of (op_eqD (by omega)) ⟨_, _, ?_, ?_, D.shaped o1 n1, D.shaped o2 n2, _, μ, r, .bl _, k⟩
  · rw [hK]; exact h1.dp o1 r ru
  · rw [hK]; exact h2.dp o2 r rv
theorem og_neD {n m : Nat} {d' e' : D} (hK : X.K = S.K) (hu : X.A.units + 65 < cLine) (h1 : Rsv μ d d') (h2 : Rsv μ e e') (o1 : D.ok n d' = true) (o2 : D.ok m e' = true) (n1 : n ≤ 60) (n2 : m ≤ 60) (k : Q (.bl (!D.eqv d' e')) μ) : OpG X S (compareOp .NotEq) d e μ Q := fun F N H u v r ru rv => by
  refine op_of (op_neD (by omega)) ⟨_, _, ?_, ?_, D.shaped o1 n1, D.shaped o2 n2, _, μ, r, .bl _, k⟩
  · rw [hK]; exact h1.dp o1 r ru
  · rw [hK]; exact h2.dp o2 r rv
def D.inL (d : D) (l : List D) : Bool := l.any fun z => D.eqv z d
theorem any_py (d : D) : ∀ l : List D, ((D.pyA l).any fun z => PyData.eqv z (D.py d)) = D.inL d l
  | [] => rfl
  | z :: l => by
    have ih := any_py d l
    simp only [D.pyA, List.any_cons, D.inL, D.eqv] at ih ⊢
    rw [ih]
theorem og_niL {n : Nat} {d' : D} (hK : X.K = S.K) (hu : X.A.units + 65 < cLine) (h1 : Rsv μ d d') (h2 : Drf μ e l) (o1 : D.ok n d' = true) (o2 : D.okA n l = true) (n1 : n ≤ 50) (k : Q (.bl (!D.inL d' l)) μ) : OpG X S (compareOp .NotIn) d e μ Q := fun F N H u v r ru rv => by
  have o2' : D.ok (n + 1) (.lst l) = true := by simpa [D.ok] using o2
  have e2 := Rsv.dp (S := S) (e := .lst l) (.inr ⟨l, h2, rfl⟩) o2' r rv
  have s2 := D.shaped o2' (by omega)
  rw [D.py] at e2 s2
  refine op_of (op_notInD hu) ⟨D.py d', D.pyA l, ?_, by rw [hK]; exact e2, D.shaped o1 (by omega), s2, _, μ, r, .bl _, ?_⟩
  · rw [hK]; exact h1.dp o1 r ru
  · rw [any_py]; exact k
end
end GL
namespace GL
open PySem L2 PySem.Spec PyProof.Rows
section
variable {X : Cx} {S : Sg} {a b c e o : Expr} {es rest : List Expr} {st : Stmt} {sts body orelse : List Stmt} {Γ : Gm} {μ : Mem} {Q : QD} {x : Str} {pos p : Pos} {d : D} {E : EG}
theorem bl_nil (k : E.nx Γ μ) : BlG X S [] Γ μ E := fun F N σ H r rs => bx_of pss_nil ⟨Γ, μ, r, rs, k⟩
theorem SXt.mono {D D' : Ends} {σ : L2.St} {H : Hp} (h : SXt X st D σ H) (h1 : ∀ σ H, D.nx σ H → D'.nx σ H) (h2 : ∀ v H, D.rt v H → D'.rt v H) (h3 : ∀ σ H, D.bk σ H → D'.bk σ H) (h4 : ∀ σ H, D.ct σ H → D'.ct σ H) : SXt X st D' σ H := ⟨fun pins s I =>
  thn (h pins s I) fun f s' q => by
    cases f with
    | next => obtain ⟨σ', H', I', q⟩ := q; exact ⟨σ', H', I', h1 _ _ q⟩
    | brk => obtain ⟨σ', H', I', q⟩ := q; exact ⟨σ', H', I', h3 _ _ q⟩
    | cont => obtain ⟨σ', H', I', q⟩ := q; exact ⟨σ', H', I', h4 _ _ q⟩
    | ret u => obtain ⟨v, σ', H', I', r, q⟩ := q; exact ⟨v, σ', H', I', r, h2 _ _ q⟩⟩
theorem bl_cons (h : StG X S st Γ μ { E with nx := fun Γ' μ' => BlG X S sts Γ' μ' E }) : BlG X S (st :: sts) Γ μ E := by
  intro F N σ H r rs
  refine bx_of (pss_cons ps_ex pss_ex) ?_
  refine SXt.mono (h F N σ H r rs) (fun σ' H' q => ?_) (fun _ _ q => q) (fun _ _ q => q) (fun _ _ q => q)
  obtain ⟨Γ', μ', r', rs', q⟩ := q
  exact q F N σ' H' r' rs'
theorem st_expr (h : EvG X S e Γ μ fun _ μ' => E.nx Γ μ') (hs : swapsWith e none pos.line X.env = pure false := by rfl) : StG X S (.Expr e pos) Γ μ E := by
  intro F N σ H r rs
  refine sx_of (ps_expr pe_ex hs) (h.use r rs fun v H' d μ' r' rs' _ q => ?_)
  exact ⟨Γ, μ', r'.weakF r.ext, rs', q⟩
theorem st_ret (h : EvG X S e Γ μ E.rt) : StG X S (.Return (some e) pos) Γ μ E := fun F N σ H r rs => sx_of (ps_ret pe_ex) (h F N σ H r rs)
theorem st_if (h : EvT X S c Γ μ fun t μ1 => (t = true → BlG X S body Γ μ1 E) ∧ (t = false → BlG X S orelse Γ μ1 E)) : StG X S (.If c body orelse pos) Γ μ E := by
  intro F N σ H r rs
  refine sx_of (ps_if pt_ex pss_ex pss_ex) (h.use r rs fun t H1 μ1 r1 rs1 q => ?_)
  cases t with
  | true => exact q.1 rfl F N σ H1 (r1.weakF r.ext) rs1
  | false => exact q.2 rfl F N σ H1 (r1.weakF r.ext) rs1
structure GXt (X : Cx) (tg : Expr) (v : V) (σ : L2.St) (H : Hp) (Q : L2.St → Hp → Prop) : Prop where
  run : ∀ (pins : List (Addr × Obj)) (s : Shared) (u : Value), Inv X pins σ H s → RelV v u → wpAny (model X.prog X.w) X.A (assign tg X.env u) (fun _ s' => ∃ σ' H', Inv X pins σ' H' s' ∧ Q σ' H') X.xe s
instance {X : Cx} {tg : Expr} {v : V} {σ : L2.St} {H : Hp} {Q : L2.St → Hp → Prop} : CoeFun (GXt X tg v σ H Q) fun _ => ∀ (pins : List (Addr × Obj)) (s : Shared) (u : Value), Inv X pins σ H s → RelV v u → wpAny (model X.prog X.w) X.A (assign tg X.env u) (fun _ s' => ∃ σ' H', Inv X pins σ' H' s' ∧ Q σ' H') X.xe s := ⟨GXt.run⟩
theorem pg_ex {tg : Expr} : PG X tg (GXt X tg) := ⟨fun pins s σ H v u Q I r h => h pins s u I r⟩
theorem gx_of {tg : Expr} {t : TG} {v : V} {σ : L2.St} {H : Hp} {Q : L2.St → Hp → Prop} (p : PG X tg t) (h : t v σ H Q) : GXt X tg v σ H Q := ⟨fun pins s u I r => p.run pins s σ H v u Q I r h⟩
theorem GXt.mono {tg : Expr} {v : V} {σ : L2.St} {H : Hp} {Q Q' : L2.St → Hp → Prop} (h : GXt X tg v σ H Q) (m : ∀ σ H, Q σ H → Q' σ H) : GXt X tg v σ H Q' := ⟨fun pins s u I r =>
  thn (h pins s u I r) fun _ _ ⟨σ', H', I', q⟩ => ⟨σ', H', I', m _ _ q⟩⟩
theorem wipe_at {σ : L2.St} {j : Nat} : ∀ {vs : List Nat}, (wipe σ vs)[j]? = if j ∈ vs then σ[j]?.map (fun _ => none) else σ[j]?
  | [] => by simp [wipe]
  | v :: vs => by
    have ih := wipe_at (σ := σ) (j := j) (vs := vs)
    have hl := wipe_length σ vs
    show ((wipe σ vs).set v none)[j]? = _
    rw [List.getElem?_set, hl]
    by_cases hv : v = j
    · subst hv
      rw [if_pos rfl, if_pos (List.mem_cons_self)]
      by_cases hlt : v < σ.length
      · rw [if_pos hlt, List.getElem?_eq_getElem hlt]
        rfl
      · rw [if_neg hlt, List.getElem?_eq_none (by omega)]
        rfl
    · rw [if_neg hv, ih]
      by_cases hj : j ∈ vs
      · rw [if_pos hj, if_pos (List.mem_cons_of_mem _ hj)]
      · rw [if_neg hj, if_neg (by simp only [List.mem_cons, not_or]; exact ⟨fun e => hv e.symm, hj⟩)]
theorem wipe_set {σ : L2.St} {i : Nat} {x : Option V} {vs : List Nat} (h : i ∈ vs) : wipe (σ.set i x) vs = wipe σ vs := by
  refine List.ext_getElem? fun j => ?_
  rw [wipe_at, wipe_at, List.getElem?_set]
  by_cases hj : j ∈ vs
  · rw [if_pos hj, if_pos hj]
    by_cases e : i = j
    · subst e
      rw [if_pos rfl]
      by_cases hlt : i < σ.length
      · rw [if_pos hlt, List.getElem?_eq_getElem hlt]
        rfl
      · rw [if_neg hlt, List.getElem?_eq_none (by omega)]
    · rw [if_neg e]
  · rw [if_neg hj, if_neg hj, if_neg (fun e : i = j => hj (e ▸ h))]
abbrev EndW (S : Sg) (F N : Hp) (vs : List Nat) (σ : L2.St) (P : Gm → Mem → Prop) : L2.St → Hp → Prop := fun σ' H' => wipe σ' vs = wipe σ vs ∧ ∃ Γ' μ', RelM S F N H' μ' ∧ RelS S (vis N H' (adr μ')) σ' Γ' ∧ P Γ' μ'
def TgG (X : Cx) (S : Sg) (vs : List Nat) (tg : Expr) (d : D) (Γ : Gm) (μ : Mem) (P : Gm → Mem → Prop) : Prop :=
  ∀ F N σ H v, RelM S F N H μ → RelS S (vis N H (adr μ)) σ Γ → Rp S (vis N H (adr μ)) v d → GXt X tg v σ H (EndW S F N vs σ P)
theorem tg_name {i : Nat} {vs : List Nat} {P : Gm → Mem → Prop} (hv : i ∈ vs) (hN : X.N.Nodup) (hi : X.N[i]? = some x) (hx : Loc X.env.scope x) (k : P (Γ.set i (some d)) μ) (hf : X.fn x = true ∨ X.env.scope.names.lookup x = some .local := by first | exact .inl rfl | exact .inr rfl | assumption) :
    TgG X S vs (.Name x pos) d Γ μ P := fun F N σ H v r rs rv => gx_of (pg_name hN hi hx hf) ⟨wipe_set hv, _, μ, r, RelS.set rv i rs, k⟩
def TgsG (X : Cx) (S : Sg) (ws : List Nat) (tgs : List Expr) (ds : List D) (Γ : Gm) (μ : Mem) (P : Gm → Mem → Prop) : Prop :=
  ∀ F N σ H vs, RelM S F N H μ → RelS S (vis N H (adr μ)) σ Γ → RpA S (vis N H (adr μ)) vs ds → ∃ t, PGs X tgs t ∧ t vs σ H (EndW S F N ws σ P)
theorem tgs_nil {ws : List Nat} {P : Gm → Mem → Prop} (k : P Γ μ) : TgsG X S ws [] [] Γ μ P := fun F N σ H vs r rs rv => by
  cases rv
  exact ⟨_, pgs_nil, rfl, rfl, Γ, μ, r, rs, k⟩
structure GsXt (X : Cx) (tgs : List Expr) (vs : List V) (σ : L2.St) (H : Hp) (Q : L2.St → Hp → Prop) : Prop where
  run : ∀ (pins : List (Addr × Obj)) (s : Shared) (us : List Value), Inv X pins σ H s → Vals vs us →
    wpAny (model X.prog X.w) X.A (assignInOrder ((assignEach tgs X.env).map (·.2)) us) (fun _ s' => ∃ σ' H', Inv X pins σ' H' s' ∧ Q σ' H') X.xe s
instance {X : Cx} {tgs : List Expr} {vs : List V} {σ : L2.St} {H : Hp} {Q : L2.St → Hp → Prop} : CoeFun (GsXt X tgs vs σ H Q) fun _ => ∀ (pins : List (Addr × Obj)) (s : Shared) (us : List Value), Inv X pins σ H s → Vals vs us →
    wpAny (model X.prog X.w) X.A (assignInOrder ((assignEach tgs X.env).map (·.2)) us) (fun _ s' => ∃ σ' H', Inv X pins σ' H' s' ∧ Q σ' H') X.xe s := ⟨GsXt.run⟩
theorem pgs_ex {tgs : List Expr} : PGs X tgs (GsXt X tgs) := ⟨fun pins s σ H vs us Q I r h => h pins s us I r⟩
theorem tgs_cons {ws : List Nat} {tg : Expr} {tgs : List Expr} {ds : List D} {P : Gm → Mem → Prop} (h : TgG X S ws tg d Γ μ fun Γ1 μ1 => TgsG X S ws tgs ds Γ1 μ1 P)
    (hs : (assignEach (tg :: tgs) X.env).map (·.2) = assign tg X.env :: (assignEach tgs X.env).map (·.2) := by rfl) : TgsG X S ws (tg :: tgs) (d :: ds) Γ μ P := fun F N σ H vs r rs rv => by
  cases rv with
  | @cons v vs _ _ h1 h2 =>
  refine ⟨_, pgs_cons pg_ex pgs_ex hs, v, vs, rfl, ?_⟩
  refine (h (vis N H (adr μ)) N σ H v r.top rs h1).mono fun σ1 H1 ⟨hw, Γ1, μ1, r1, rs1, q⟩ => ?_
  refine ⟨fun pins s us I rv' => ?_⟩
  obtain ⟨t, ht, q⟩ := q F N σ1 H1 vs (r1.weakF r.ext) rs1 (h2.ext r1.ext)
  exact thn (ht.run pins s σ1 H1 vs us _ I rv' q) fun _ _ ⟨σ2, H2, I2, hw2, q2⟩ => ⟨σ2, H2, I2, hw2.trans hw, q2⟩
theorem tg_tup {ws : List Nat} {tgs : List Expr} {k : Nat} {ds : List D} {n : Nat} {P : Gm → Mem → Prop} (hK : X.K = S.K) (hc : X.calm = true) (h : TgsG X S ws tgs ds Γ μ P) (hl : ds.length = n)
    (hn : (assignEach tgs X.env).length = n := by rfl) (hst : (assignEach tgs X.env).findIdx? (·.1) = none := by rfl) : TgG X S ws (.Tuple tgs k pos) (.tup ds) Γ μ P := fun F N σ H v r rs rv => by
  cases rv with
  | @tup a xs _ ha hs =>
  obtain ⟨t, ht, q⟩ := h F N σ H xs r rs hs
  exact gx_of (pg_tup hc ht hn hst) ⟨a, xs, rfl, by rw [hK]; exact vis_le.t ha.1, by rw [hs.length, hl], q⟩
theorem st_asg {tg : Expr} (h : EvG X S e Γ μ fun d μ1 => TgG X S (List.range 64) tg d Γ μ1 E.nx) (hs : swapsWithSole [tg] e pos.line X.env = pure false := by rfl) (hw : swappedStores [tg] e X.env = pure none := by rfl)
    (h1 : (assignEach [tg] X.env).map (·.2) = [assign tg X.env] := by rfl) : StG X S (.Assign [tg] e pos) Γ μ E := by
  intro F N σ H r rs
  refine sx_of (ps_asg pe_ex pg_ex hs hw h1) (h.use r rs fun v H' d μ' r' rs' rv q => ?_)
  exact (q F N σ H' v (r'.weakF r.ext) rs' rv).mono fun _ _ z => z.2
theorem st_set {i : Nat} {pos' : Pos} (hN : X.N.Nodup) (hi : X.N[i]? = some x) (hx : Loc X.env.scope x) (h : EvG X S e Γ μ fun d μ1 => E.nx (Γ.set i (some d)) μ1)
    (hs : swapsWith e (some (.Name x pos')) pos.line X.env = pure false := by rfl) (hf : X.fn x = true ∨ X.env.scope.names.lookup x = some .local := by first | exact .inl rfl | exact .inr rfl | assumption) : StG X S (.Assign [.Name x pos'] e pos) Γ μ E := by
  intro F N σ H r rs
  refine sx_of (ps_set hN hi hx pe_ex hs hf) (h.use r rs fun v H' d μ' r' rs' rv q => ?_)
  exact ⟨_, μ', r'.weakF r.ext, RelS.set rv i rs', q⟩
theorem set_self {α : Type} : ∀ {l : List α} {i : Nat} {v : α}, l[i]? = some v → l.set i v = l
  | [], _, _, h => by simp at h
  | _ :: _, 0, _, h => by
    simp at h
    subst h
    rfl
  | a :: l, i + 1, v, h => by
    have := set_self (l := l) (i := i) (v := v) (by simpa using h)
    show a :: l.set i v = a :: l
    rw [this]
theorem RelS.frz {Hv : Hp} {i : Nat} {d : D} {σ : L2.St} {v : V} (hv : σ[i]? = some (some v)) (r : Rp S Hv v d) : ∀ {Γ : Gm}, RelS S Hv σ Γ → RelS S Hv σ (Γ.set i (some d)) := fun {Γ} rs => by
  have := RelS.set r i rs
  rw [set_self hv] at this
  exact this
end
end GL
namespace GL
open PySem L2 PySem.Spec PyProof.Rows
def ItOk (S : Sg) (J : It) (Km : Mem → Prop) (ds : List D) (Fv : Hp) : Prop :=
  ∀ N i H2 μ2, RelM S Fv N H2 μ2 → Km μ2 → (ds.length ≤ i → J.stop i H2) ∧
    ∀ d, ds[i]? = some d → J.go i H2 ∧ ∀ x H', J.yld i H2 x H' → RelM S (vis N H2 (adr μ2)) N H' μ2 ∧ Rp S (vis N H' (adr μ2)) x d
abbrev RI := (Mem → Prop) → List D → Mem → Prop
def WkG (S : Sg) (wi : TI) (Γ : Gm) (μ : Mem) (R : RI) : Prop :=
  ∀ F N σ H, RelM S F N H μ → RelS S (vis N H (adr μ)) σ Γ → ∀ Rr : It → Hp → Prop,
    (∀ J H1 ds Km μ1, RelM S (vis N H (adr μ)) N H1 μ1 → RelS S (vis N H1 (adr μ1)) σ Γ → ItOk S J Km ds (vis N H1 (adr μ1)) → R Km ds μ1 → Rr J H1) → wi σ H Rr
def IterG (X : Cx) (S : Sg) (tg iter : Expr) (Γ : Gm) (μ : Mem) (R : RI) : Prop := ∃ wi, PI X tg iter wi ∧ WkG S wi Γ μ R
section
variable {X : Cx} {S : Sg} {tg iter : Expr} {body : List Stmt} {Γ : Gm} {μ : Mem} {pos : Pos} {E : EG}
theorem st_for (hp : PassesOwn (model X.prog X.w) X.A X.env X.xe) (hc : X.calm = true)
    (hi : IterG X S tg iter Γ μ fun Km ds μ1 => ∃ I : Nat → Gm → Mem → Prop, I 0 Γ μ1 ∧ (∀ i Γ' μ', I i Γ' μ' → Km μ') ∧
      (∀ i d Γ' μ', ds[i]? = some d → I i Γ' μ' → TgG X S (List.range 64) tg d Γ' μ' fun Γ2 μ2 => BlG X S body Γ2 μ2 { nx := I (i + 1), ct := I (i + 1), bk := E.nx, rt := E.rt }) ∧
      (∀ Γ' μ', I ds.length Γ' μ' → E.nx Γ' μ'))
    (hs : ∀ x, foldedSetIterable iter X.env x = pure x := by intro _; rfl) : StG X S (.For tg iter body [] pos) Γ μ E := by
  intro F N σ H r rs
  obtain ⟨wi, hpi, hw⟩ := hi
  refine sx_of (ps_for hp hc hpi pg_ex pss_ex hs) (hw F N σ H r rs _ fun J H1 ds Km μ1 r1 rs1 ok q => ?_)
  obtain ⟨I, i0, ik, it, ie⟩ := q
  have eF : Ex F (vis N H1 (adr μ1)) := r.ext.trans r1.ext
  refine ⟨fun i m σ' H' => m = ds.length - i ∧ i ≤ ds.length ∧ ∃ Γ' μ', RelM S (vis N H1 (adr μ1)) N H' μ' ∧ RelS S (vis N H' (adr μ')) σ' Γ' ∧ I i Γ' μ', ⟨_, rfl, Nat.zero_le _, Γ, μ1, r1.top, rs1, i0⟩, ?_⟩
  rintro i m σ' H' ⟨rfl, hi, Γ', μ', r', rs', hI⟩
  by_cases hlt : i < ds.length
  · obtain ⟨hgo, hy⟩ := (ok N i H' μ' r' (ik i Γ' μ' hI)).2 ds[i] (List.getElem?_eq_getElem hlt)
    refine .inr ⟨hgo, fun σ2 H2 => ∃ Γ2 μ2, RelM S (vis N H1 (adr μ1)) N H2 μ2 ∧ RelS S (vis N H2 (adr μ2)) σ2 Γ2 ∧ I (i + 1) Γ2 μ2, fun σ2 H2 ⟨Γ2, μ2, q⟩ => ⟨_, by omega, rfl, hlt, Γ2, μ2, q⟩, fun x H2 hx => ?_⟩
    obtain ⟨r2, rx⟩ := hy x H2 hx
    refine (it i _ Γ' μ' (List.getElem?_eq_getElem hlt) hI (vis N H1 (adr μ1)) N σ' H2 x (r2.weakF r'.ext) (RelS.ext r2.ext rs') rx).mono fun σ3 H3 ⟨_, Γ3, μ3, r3, rs3, hb⟩ => ?_
    refine ⟨fun pins s I0 => ?_⟩
    refine thn (hb (vis N H1 (adr μ1)) N σ3 H3 r3 rs3 pins s I0) fun f s' q => ?_
    cases f with
    | next => obtain ⟨σ4, H4, I4, q⟩ := q; exact ⟨σ4, H4, I4, q⟩
    | cont => obtain ⟨σ4, H4, I4, q⟩ := q; exact ⟨σ4, H4, I4, q⟩
    | brk =>
      obtain ⟨σ4, H4, I4, Γ4, μ4, r4, rs4, q⟩ := q
      exact ⟨σ4, H4, I4, Γ4, μ4, r4.weakF eF, rs4, q⟩
    | ret u =>
      obtain ⟨v, σ4, H4, I4, rv, d4, μ4, r4, rd4, q⟩ := q
      exact ⟨v, σ4, H4, I4, rv, d4, μ4, r4.weakF eF, rd4, q⟩
  · have e : i = ds.length := by omega
    subst e
    exact .inl ⟨(ok N _ H' μ' r' (ik _ Γ' μ' hI)).1 (Nat.le_refl _), Γ', μ', r'.weakF eF, rs', ie Γ' μ' hI⟩
def IVt (X : Cx) (tg : Expr) : V → Hp → (It → Hp → Prop) → Prop := fun x H R => ∀ (pins : List (Addr × Obj)) (s : Shared) (σ : L2.St) (v : Value), Inv X pins σ H s → RelV x v → wpAny (model X.prog X.w) X.A (pyIter v) (PIE X pins σ tg R) X.xe s
def IterV (X : Cx) (S : Sg) (tg : Expr) (d : D) (μ : Mem) (R : RI) : Prop :=
  ∀ F N H x, RelM S F N H μ → Rp S (vis N H (adr μ)) x d → ∀ Rr : It → Hp → Prop,
    (∀ J H1 ds Km μ1, RelM S (vis N H (adr μ)) N H1 μ1 → ItOk S J Km ds (vis N H1 (adr μ1)) → R Km ds μ1 → Rr J H1) → IVt X tg x H Rr
theorem ig_val {R : RI} (h : EvG X S iter Γ μ fun d μ1 => IterV X S tg d μ1 R) : IterG X S tg iter Γ μ R := by
  refine ⟨fun σ H Rr => EXt X iter σ H fun x H1 => IVt X tg x H1 Rr, ⟨fun pins s σ H Rr I h => ?_⟩, fun F N σ H r rs Rr k => ?_⟩
  · exact thn (h pins s I) fun v s1 ⟨x, H1, I1, rx, q⟩ => q pins s1 σ v I1 rx
  · refine h.use r rs fun v H1 d μ1 r1 rs1 rd q => ?_
    refine q F N H1 v (r1.weakF r.ext) rd Rr fun J H2 ds Km μ2 r2 ok qR => ?_
    exact k J H2 ds Km μ2 (r2.weakF r1.ext) (RelS.ext r2.ext rs1) ok qR
theorem yld_l {K : PySem.W.Frag} {a : Addr} {i : Nat} {H H' : Hp} {x : V} {xs : List V} (h : (Itl K a).yld i H x H') (hx : SqL K H a xs) : H' = H ∧ xs[i]? = some x := ⟨h.1, h.2 xs hx⟩
theorem yld_t {K : PySem.W.Frag} {a : Addr} {i : Nat} {H H' : Hp} {x : V} {xs : List V} (h : (Itt K a).yld i H x H') (hx : SqT K H a xs) : H' = H ∧ xs[i]? = some x := ⟨h.1, h.2 xs hx⟩
theorem itok_l {S : Sg} {Fv : Hp} {a : Addr} {xs : List V} {l : List D} (h : SqL S.K Fv a xs) (hs : RpA S Fv xs l) : ItOk S (Itl S.K a) (fun _ => True) l Fv := by
  intro N i H2 μ2 r2 _
  have h2 : SqL S.K H2 a xs := r2.le.l h
  refine ⟨fun hi => ⟨xs, h2, by rw [hs.length]; exact hi⟩, fun d hd => ?_⟩
  obtain ⟨v, hv, rv⟩ := hs.get hd
  refine ⟨⟨xs, v, h2, hv⟩, fun x H' hy => ?_⟩
  obtain ⟨rfl, hx⟩ := yld_l hy h2
  rw [hv] at hx
  cases hx
  exact ⟨r2.top, rv.ext r2.ext⟩
theorem itok_t {S : Sg} {Fv : Hp} {a : Addr} {xs : List V} {l : List D} (h : SqT S.K Fv a xs) (hs : RpA S Fv xs l) : ItOk S (Itt S.K a) (fun _ => True) l Fv := by
  intro N i H2 μ2 r2 _
  have h2 : SqT S.K H2 a xs := r2.le.t h
  refine ⟨fun hi => ⟨xs, h2, by rw [hs.length]; exact hi⟩, fun d hd => ?_⟩
  obtain ⟨v, hv, rv⟩ := hs.get hd
  refine ⟨⟨xs, v, h2, hv⟩, fun x H' hy => ?_⟩
  obtain ⟨rfl, hx⟩ := yld_t hy h2
  rw [hv] at hx
  cases hx
  exact ⟨r2.top, rv.ext r2.ext⟩
theorem iv_sql {H : Hp} {a : Addr} {xs : List V} {Rr : It → Hp → Prop} (h : SqL X.K H a xs) (q : Rr (Itl X.K a) H) : IVt X tg (.ref a) H Rr := by
  intro pins s σ v I rx
  cases rx
  obtain ⟨its, rv, p, hz⟩ := I.list h
  refine wpAny_pyIter_list p.isList ?_
  have hf := I.hok.fresh (Nat.le_refl _)
  refine ⟨_, [s.heap.objs.size], _, _, H, rfl, I.kept (t' := s.toks) (fun b o e => Heap.get?_push_of_some _ e), turn_list a _, ⟨_, Heap.get?_push_size _ rfl, rfl, rfl⟩, ?_, q⟩
  intro b hb
  rw [List.mem_singleton.mp hb]
  exact I.fpOk (Nat.le_refl _) hf
theorem iv_sqt {H : Hp} {a : Addr} {xs : List V} {Rr : It → Hp → Prop} (h : SqT X.K H a xs) (q : Rr (Itt X.K a) H) : IVt X tg (.ref a) H Rr := by
  intro pins s σ v I rx
  cases rx
  obtain ⟨its, rv, p, hz⟩ := I.tuple h
  refine wpAny_pyIter_tuple (show s.heap.IsTuple a its.toArray from p) ?_
  have hf := I.hok.fresh (Nat.le_refl _)
  refine ⟨_, [s.heap.objs.size], _, _, H, rfl, I.kept (t' := s.toks) (fun b o e => Heap.get?_push_of_some _ e), turn_tuple a _, ⟨_, Heap.get?_push_size _ rfl, rfl, rfl⟩, ?_, q⟩
  intro b hb
  rw [List.mem_singleton.mp hb]
  exact I.fpOk (Nat.le_refl _) hf
variable {R : RI} {d : D}
theorem iv_lst (hK : X.K = S.K) {l : List D} (k : R (fun _ => True) l μ) : IterV X S tg (.lst l) μ R := by
  intro F N H x r rx Rr kk
  cases rx with
  | @lst a xs _ h hs =>
  have h' : SqL S.K (vis N H (adr μ)) a xs := SqL.of h
  refine iv_sql (xs := xs) (by rw [hK]; exact vis_le.l h') ?_
  rw [hK]
  exact kk _ H l _ μ r.top (itok_l h' hs) k
theorem iv_tup (hK : X.K = S.K) {l : List D} (k : R (fun _ => True) l μ) : IterV X S tg (.tup l) μ R := by
  intro F N H x r rx Rr kk
  cases rx with
  | @tup a xs _ h hs =>
  refine iv_sqt (xs := xs) (by rw [hK]; exact vis_le.t h.1) ?_
  rw [hK]
  exact kk _ H l _ μ r.top (itok_t h.1 hs) k
theorem iv_scr (hK : X.K = S.K) {ns : List Int} (k : R (fun _ => True) (ns.map D.int) μ) : IterV X S tg (.scr ns) μ R := by
  intro F N H x r rx Rr kk
  cases rx with
  | @scr a _ h =>
  refine iv_sql (by rw [hK]; exact vis_le.l h) ?_
  rw [hK]
  have hs : ∀ ns : List Int, RpA S (vis N H (adr μ)) (ns.map V.int) (ns.map D.int) := fun ns => by
    induction ns with
    | nil => exact .nil
    | cons n ns ih => exact .cons (.int n) ih
  exact kk _ H _ _ μ r.top (itok_l h (hs ns)) k
def rng (lo : Int) (n : Nat) : List D := (List.range n).map fun (i : Nat) => D.int (lo + (i : Int))
theorem rng_get {lo : Int} {n i : Nat} {d : D} (h : (rng lo n)[i]? = some d) : i < n ∧ d = .int (lo + i) := by
  unfold rng at h
  rw [List.getElem?_map] at h
  by_cases hi : i < n
  · rw [List.getElem?_range hi] at h
    simp at h
    exact ⟨hi, h.symm⟩
  · rw [List.getElem?_eq_none (by rw [List.length_range]; omega)] at h
    cases h
theorem rng_len {lo : Int} {n : Nat} : (rng lo n).length = n := by unfold rng; rw [List.length_map, List.length_range]
theorem itok_r {S : Sg} {Fv : Hp} {lo : Int} {n : Nat} : ItOk S (Itr lo n) (fun _ => True) (rng lo n) Fv := by
  intro N i H2 μ2 r2 _
  refine ⟨fun hi => by rw [rng_len] at hi; exact hi, fun d hd => ?_⟩
  obtain ⟨hi, rfl⟩ := rng_get hd
  refine ⟨hi, fun x H' hy => ?_⟩
  obtain ⟨rfl, rfl⟩ := hy
  exact ⟨r2.top, .int _⟩
theorem ig_range1 {a : Expr} {p : Pos} (hg : Gl X "range") (hm : X.mg "range" = none)
    (h : EvA X S [a] Γ μ fun ds μ1 => ∃ j : Int, ds = [.int j] ∧ (-(2 ^ 62) ≤ j ∧ j < 2 ^ 62) ∧ R (fun _ => True) (rng 0 j.toNat) μ1) (hs : starEach [a] X.env = [(false, eval a X.env)] := by rfl) :
    IterG X S tg (.Call (.Name "range" p) [a] [] pos) Γ μ R := by
  refine ⟨_, pi_range1 hg hm pa_ex hs, fun F N σ H r rs Rr k => ?_⟩
  refine h.use r rs fun vs H1 ds μ1 r1 rs1 rds q => ?_
  obtain ⟨j, rfl, ⟨j1, j2⟩, q⟩ := q
  cases rds with
  | cons h1 h2 =>
  cases h1
  cases h2
  exact ⟨j, rfl, j1, j2, k _ H1 _ _ μ1 r1 rs1 itok_r q⟩
end
end GL
namespace GL
open PySem L2 PySem.Spec PyProof.Rows
section
variable {S : Sg0} {F N H : Hp} {μ : Mem} {p : Addr} {o o' : HO}
theorem RelM0.hide (r : RelM0 S F N H μ) (hp : H p = none) (ho : ∀ xs, o ≠ .tup xs) : RelM0 S F (upd N p o) (upd H p o) μ ∧ vis (upd N p o) (upd H p o) (adr μ) = vis N H (adr μ) := by
  have hN := hid_new r hp
  have hA := adr_new r hp
  have ev : vis (upd N p o) (upd H p o) (adr μ) = vis N H (adr μ) := by
    funext b
    unfold vis
    by_cases hb : b = p
    · subst hb
      rw [if_pos (.inl (by rw [upd_same]; rfl)), hp]
      split <;> rfl
    · rw [upd_ne hb, upd_ne hb]
  refine ⟨⟨fun b u e => ?_, fun b hb => ?_, by rw [ev]; exact r.ext, r.nd, fun q hq => ?_, fun b xs e => ?_⟩, ev⟩
  rotate_left 3
  · by_cases hb : b = p
    · rw [hb, upd_same] at e
      exact ho xs (Option.some.inj e)
    · rw [upd_ne hb] at e
      exact r.tup b xs e
  · by_cases hb : b = p
    · subst hb
      rw [upd_same] at e ⊢
      exact e
    · rw [upd_ne hb] at e ⊢
      exact r.hid b u e
  · rw [upd_ne (fun e => hA (by rw [← e]; exact hb))]
    exact r.dis b hb
  · obtain ⟨u, e, m⟩ := r.mem q hq
    exact ⟨u, by rw [upd_ne (ne_of_none e hp)]; exact e, by rw [ev]; exact m⟩
theorem RelM0.rehide (r : RelM0 S F (upd N p o) H μ) (ho : ∀ xs, o' ≠ .tup xs) : RelM0 S F (upd N p o') (upd H p o') μ ∧ vis (upd N p o') (upd H p o') (adr μ) = vis (upd N p o) H (adr μ) := by
  have hA : p ∉ adr μ := fun h => by
    have := r.dis p h
    rw [upd_same] at this
    cases this
  have ev : vis (upd N p o') (upd H p o') (adr μ) = vis (upd N p o) H (adr μ) := by
    funext b
    unfold vis
    by_cases hb : b = p
    · subst hb
      rw [if_pos (.inl (by rw [upd_same]; rfl)), if_pos (.inl (by rw [upd_same]; rfl))]
    · rw [upd_ne hb, upd_ne hb, upd_ne hb]
  refine ⟨⟨fun b u e => ?_, fun b hb => ?_, by rw [ev]; exact r.ext, r.nd, fun q hq => ?_, fun b xs e => ?_⟩, ev⟩
  rotate_left 3
  · by_cases hb : b = p
    · rw [hb, upd_same] at e
      exact ho xs (Option.some.inj e)
    · rw [upd_ne hb] at e
      exact r.tup b xs (by rw [upd_ne hb]; exact e)
  · by_cases hb : b = p
    · subst hb
      rw [upd_same] at e ⊢
      exact e
    · rw [upd_ne hb] at e ⊢
      exact r.hid b u (by rw [upd_ne hb]; exact e)
  · have h1 := r.dis b hb
    have hne : b ≠ p := fun e => hA (by rw [← e]; exact hb)
    rw [upd_ne hne] at h1 ⊢
    exact h1
  · obtain ⟨u, e, m⟩ := r.mem q hq
    have hne : q.1 ≠ p := fun z => hA (by rw [← z]; exact List.mem_map_of_mem hq)
    exact ⟨u, by rw [upd_ne hne]; exact e, by rw [ev]; exact m⟩
end
section
variable {S : Sg} {F N H : Hp} {μ : Mem} {p : Addr} {o o' : HO}
theorem RelM.hide (r : RelM S F N H μ) (hp : H p = none) (ho : ∀ xs, o ≠ .tup xs := by intro _ h; cases h) : RelM S F (upd N p o) (upd H p o) μ ∧ vis (upd N p o) (upd H p o) (adr μ) = vis N H (adr μ) :=
  ⟨⟨(r.toRelM0.hide hp ho).1, iv_hid r.iv (hid_new r.toRelM0 hp)⟩, (r.toRelM0.hide hp ho).2⟩
theorem RelM.rehide (r : RelM S F (upd N p o) H μ) (i : S.iv F N) (hN : N p = none) (ho : ∀ xs, o' ≠ .tup xs := by intro _ h; cases h) : RelM S F (upd N p o') (upd H p o') μ ∧ vis (upd N p o') (upd H p o') (adr μ) = vis (upd N p o) H (adr μ) :=
  ⟨⟨(r.toRelM0.rehide ho).1, iv_hid i hN⟩, (r.toRelM0.rehide ho).2⟩
theorem RelM.unhide (r : RelM S F (upd N p o) H μ) (i : S.iv F N) (hN : N p = none) : RelM S F N H μ ∧ Ex (vis (upd N p o) H (adr μ)) (vis N H (adr μ)) ∧ vis N H (adr μ) p = some o :=
  ⟨⟨(r.toRelM0.unhide hN).1, i⟩, (r.toRelM0.unhide hN).2⟩
end
def wipeG (Γ : Gm) : List Nat → Gm
  | [] => Γ
  | v :: vs => (wipeG Γ vs).set v none
theorem RelS.setN {S : Sg} {Hv : Hp} : ∀ {σ : L2.St} {Γ : Gm} (i : Nat), RelS S Hv σ Γ → RelS S Hv (σ.set i none) (Γ.set i none)
  | _, _, _, .nil => .nil
  | _, _, 0, .cons _ t => .cons (fun d hd => by cases hd) t
  | _, _, i + 1, .cons h t => .cons h (RelS.setN i t)
theorem RelS.wipe {S : Sg} {Hv : Hp} {σ : L2.St} {Γ : Gm} (r : RelS S Hv σ Γ) : ∀ vs : List Nat, RelS S Hv (L2.wipe σ vs) (wipeG Γ vs)
  | [] => r
  | v :: vs => RelS.setN v (RelS.wipe r vs)
def TsXt (X : Cx) (ifs : List Expr) : TT := fun σ H Q => ∃ t Q0, PTs X ifs t ∧ t σ H Q0 ∧ ∀ b H', Q0 b H' → Q b H'
def TsG (X : Cx) (S : Sg) (ifs : List Expr) (Γ : Gm) (μ : Mem) (T : Bool → Mem → Prop) : Prop :=
  ∀ F N σ H, RelM S F N H μ → RelS S (vis N H (adr μ)) σ Γ → ∃ t, PTs X ifs t ∧ t σ H (EndT S F N T)
theorem ts_nil {X : Cx} {S : Sg} {Γ : Gm} {μ : Mem} {T : Bool → Mem → Prop} (k : T true μ) : TsG X S [] Γ μ T := fun F N σ H r rs => ⟨_, pts_nil, μ, r, k⟩
theorem pts_ex {X : Cx} {ifs : List Expr} : PTs X ifs (TsXt X ifs) := ⟨fun pins s σ H Q I h => by
  obtain ⟨t, Q0, ht, q, m⟩ := h
  exact thn (ht.run pins s σ H Q0 I q) fun b s' ⟨H', I', q'⟩ => ⟨H', I', m _ _ q'⟩⟩
structure Bk where
  s : Shared
  H : Hp
  C : Addr
  cl : List (Str × Addr)
  fp : List Addr
abbrev Bk.cx (k : Bk) (X : Cx) (scope : Scope) : Cx := X.blk k.s k.H scope (compEnvC scope k.cl k.C X.env) k.fp
def LcG (X : Cx) (S : Sg) (tg elt : Expr) (ifs : List Expr) (scope : Scope) (vs : List Nat) (Γ : Gm) (Km : Mem → Prop) (ds : List D) (μ1 : Mem) (Q : List D → Mem → Prop) : Prop :=
  ∃ I : Nat → List D → Mem → Prop, I 0 [] μ1 ∧ (∀ i acc μ', I i acc μ' → Km μ') ∧
    (∀ i d acc μ', ds[i]? = some d → I i acc μ' → ∀ k : Bk,
      TgG (k.cx X scope) S vs tg d (wipeG Γ vs) μ' fun Γ2 μ2 => ∀ k : Bk, TsG (k.cx X scope) S ifs Γ2 μ2 fun b μ3 =>
          (b = true → ∀ k : Bk, EvG (k.cx X scope) S elt Γ2 μ3 fun y μ4 => acc.length < 16777216 ∧ I (i + 1) (acc ++ [y]) μ4) ∧ (b = false → I (i + 1) acc μ3)) ∧
    (∀ acc μ', I ds.length acc μ' → Q acc μ')
def lcT (X : Cx) (scope : Scope) (ifs : List Expr) : TT := fun σ H Q => ∀ k : Bk, TsXt (k.cx X scope) ifs σ H Q
def lcE (X : Cx) (scope : Scope) (elt : Expr) : TE := fun σ H Q => ∀ k : Bk, EXt (k.cx X scope) elt σ H Q
def lcT' (X : Cx) (scope : Scope) (tg : Expr) : TG := fun v σ H Q => ∀ k : Bk, GXt (k.cx X scope) tg v σ H Q
section
variable {X : Cx} {S : Sg} {tg iter elt : Expr} {ifs : List Expr} {scope : Scope} {own : List (Str × Nat)} {Γ : Gm} {μ : Mem} {pos : Pos}
theorem lc_sem {Qv : VK} {F N H : Hp} {σ : L2.St} {wi : TI} {vs : List Nat} {Q : List D → Mem → Prop}
    (hw : WkG S wi Γ μ fun Km ds μ1 => LcG X S tg elt ifs scope vs Γ Km ds μ1 Q)
    (r : RelM S F N H μ) (rs : RelS S (vis N H (adr μ)) σ Γ) (k : ∀ p H' acc μ', RelM S (vis N H (adr μ)) N H' μ' → RelS S (vis N H' (adr μ')) σ Γ → Rp S (vis N H' (adr μ')) (.ref p) (.lst acc) → Q acc μ' → Qv (.ref p) H') :
    tLc wi (lcT' X scope tg) (lcT X scope ifs) (lcE X scope elt) vs σ H Qv := by
  refine hw F N σ H r rs _ fun J H1 ds Km μ1 r1 rs1 ok q => ?_
  obtain ⟨I, i0, ik, it, ie⟩ := q
  intro p hp
  have hNp : N p = none := hid_new r1.toRelM0 hp
  have ww : wipe (wipe σ vs) vs = wipe σ vs := List.ext_getElem? fun j => by
    rw [wipe_at]
    by_cases hj : j ∈ vs
    · rw [if_pos hj, wipe_at, if_pos hj]
      cases σ[j]? <;> rfl
    · rw [if_neg hj]
  refine ⟨fun i m H' => m = ds.length - i ∧ i ≤ ds.length ∧ ∃ xs acc μ', RelM S (vis N H1 (adr μ1)) (upd N p (.lst xs)) H' μ' ∧ RpA S (vis (upd N p (.lst xs)) H' (adr μ')) xs acc ∧ I i acc μ', ⟨_, rfl, Nat.zero_le _, [], [], μ1, (r1.top.hide hp).1, .nil, i0⟩, ?_⟩
  rintro i m H' ⟨rfl, hi, xs, acc, μ', r', ra, hI⟩
  by_cases hlt : i < ds.length
  · have hd : ds[i]? = some ds[i] := List.getElem?_eq_getElem hlt
    obtain ⟨hgo, hy⟩ := (ok _ i H' μ' r' (ik i acc μ' hI)).2 ds[i] hd
    refine .inr ⟨hgo, fun H2 => ∃ xs acc μ2, RelM S (vis N H1 (adr μ1)) (upd N p (.lst xs)) H2 μ2 ∧ RpA S (vis (upd N p (.lst xs)) H2 (adr μ2)) xs acc ∧ I (i + 1) acc μ2, fun H2 q => ⟨_, by omega, rfl, hlt, q⟩, fun x H2 hx => ?_⟩
    obtain ⟨r2, rx⟩ := hy x H2 hx
    intro kb
    have rw2 : RelS S (vis (upd N p (.lst xs)) H2 (adr μ')) (wipe σ vs) (wipeG Γ vs) := RelS.ext (r'.ext.trans r2.ext) (RelS.wipe rs1 vs)
    refine (it i _ acc μ' hd hI kb _ _ (wipe σ vs) H2 x r2 rw2 rx).mono fun σ3 H3 ⟨hws, Γ3, μ3, r3, rs3, hb⟩ => ⟨by rw [hws, ww], ?_⟩
    intro kt
    obtain ⟨t, ht, qt⟩ := hb kt _ _ σ3 H3 r3.top rs3
    refine ⟨t, _, ht, qt, fun b H4 q4 => ?_⟩
    obtain ⟨μ4, r4, q5, q6⟩ := q4
    have ra4 : RpA S (vis (upd N p (.lst xs)) H4 (adr μ4)) xs acc := ra.ext (r3.ext.trans r4.ext)
    cases b with
    | false => exact ⟨xs, acc, μ4, r4.weakF (r'.ext.trans r3.ext), ra4, q6 rfl⟩
    | true =>
      rw [if_pos rfl]
      intro ke
      refine (q5 rfl ke).use r4 (RelS.ext r4.ext rs3) fun y H5 dy μ5 r5 rs5 ry q7 => ?_
      have hz : xs.length = acc.length := ra.length
      refine ⟨xs, r5.hid p _ upd_same, by rw [sizeLine_eq, hz]; exact q7.1, xs ++ [y], acc ++ [dy], μ5, ?_⟩
      obtain ⟨r6, ev⟩ := (r5.weakF ((r'.ext.trans r3.ext).trans r4.ext)).rehide r1.top.iv hNp (o' := .lst (xs ++ [y]))
      refine ⟨r6, ?_, q7.2⟩
      rw [ev]
      exact (ra4.ext r5.ext).append (.cons ry .nil)
  · have e : i = ds.length := by omega
    subst e
    obtain ⟨u1, u2, u3⟩ := r'.unhide r1.top.iv hNp
    refine .inl ⟨(ok _ _ H' μ' r' (ik _ acc μ' hI)).1 (Nat.le_refl _), k p H' acc μ' (u1.weakF r1.ext) (RelS.ext (r'.ext.trans u2) rs1) (.lst u3 (ra.ext u2)) (ie acc μ' hI)⟩
theorem ev_lc {Q : QD} {vs : List Nat} (hc : X.calm = true) (hN : X.N.Nodup) (ok : BlkOk X.N X.env.scope scope own) (hvs : own.map (·.2) = vs) (hi : IterG X S tg iter Γ μ fun Km ds μ1 => LcG X S tg elt ifs scope vs Γ Km ds μ1 fun acc μ' => Q (.lst acc) μ')
    (hs : ∀ x, foldedSetIterable iter X.env x = pure x := by intro _; rfl) : EvG X S (.ListComp elt [⟨tg, iter, ifs, 0⟩] scope pos) Γ μ Q := by
  intro F N σ H r rs
  obtain ⟨wi, hpi, hw⟩ := hi
  subst hvs
  refine ex_of (pe_lc hc hN hpi ok (g := lcT' X scope tg) (tt := lcT X scope ifs) (te := lcE X scope elt) (fun s H C cl fp => ⟨fun pins s' σ H' v u Q' I rv h => (h ⟨s, H, C, cl, fp⟩) pins s' u I rv⟩) (fun s H C cl fp => ⟨fun pins s' σ H' Q' I h => pts_ex.run pins s' σ H' Q' I (h ⟨s, H, C, cl, fp⟩)⟩) (fun s H C cl fp => ⟨fun pins s' σ H' Q' I h => (h ⟨s, H, C, cl, fp⟩) pins s' I⟩) hs) ?_
  exact lc_sem hw r rs fun p H' acc μ' r' _ rp q => ⟨_, μ', r'.weakF r.ext, rp, q⟩
theorem st_setLc {E : EG} {i : Nat} {y : Str} {py spos : Pos} {vs : List Nat} (hc : X.calm = true) (hN : X.N.Nodup) (hy : X.N[i]? = some y) (hyl : X.env.scope.names.lookup y = some .local)
    (hsw : swapsWith (.ListComp elt [⟨tg, iter, ifs, 0⟩] scope pos) (some (.Name y py)) spos.line X.env = pure true) (ok : BlkOk X.N X.env.scope scope own) (hvs : own.map (·.2) = vs)
    (hi : IterG X S tg iter Γ μ fun Km ds μ1 => LcG X S tg elt ifs scope vs Γ Km ds μ1 fun acc μ' => E.nx (Γ.set i (some (.lst acc))) μ') (hs : ∀ x, foldedSetIterable iter X.env x = pure x := by intro _; rfl) :
    StG X S (.Assign [.Name y py] (.ListComp elt [⟨tg, iter, ifs, 0⟩] scope pos) spos) Γ μ E := by
  intro F N σ H r rs
  obtain ⟨wi, hpi, hw⟩ := hi
  subst hvs
  refine sx_of (ps_setLc hc hN hy hyl hsw hpi ok (g := lcT' X scope tg) (tt := lcT X scope ifs) (te := lcE X scope elt) (fun s H C cl fp => ⟨fun pins s' σ H' v u Q' I rv h => (h ⟨s, H, C, cl, fp⟩) pins s' u I rv⟩) (fun s H C cl fp => ⟨fun pins s' σ H' Q' I h => pts_ex.run pins s' σ H' Q' I (h ⟨s, H, C, cl, fp⟩)⟩) (fun s H C cl fp => ⟨fun pins s' σ H' Q' I h => (h ⟨s, H, C, cl, fp⟩) pins s' I⟩) hs) ?_
  exact lc_sem hw r rs fun p H' acc μ' r' rs' rp q => ⟨_, μ', r'.weakF r.ext, RelS.set rp i rs', q⟩
end
end GL
namespace GL
open PySem L2 PySem.Spec PyProof.Rows
section
variable {X : Cx} {S : Sg} {a b e o : Expr} {es : List Expr} {Γ : Gm} {μ : Mem} {Q : QD} {x : Str} {pos p apos : Pos} {d : D}
theorem ev_callB {id : String} (hg : Gl X x) (hm : X.mg x = none) (hv : bootBuiltins x = some (.builtin id)) (h : EvA X S (e :: es) Γ μ fun ds μ1 => CallG X S (.builtin id) ds μ1 Q) (hn : x ≠ "__name__" := by decide) (hdb : (x == ("__debug__" : Str)) = false := by decide)
    (he : starEach (e :: es) X.env = (false, eval e X.env) :: starEach es X.env := by rfl) (hpl : (backTo pos (starEach es X.env)).any (·.1) = false := by rfl) : EvG X S (.Call (.Name x p) (e :: es) [] pos) Γ μ Q := by
  intro F N σ H r rs
  refine ex_of (pe_callB cpr_self hg hm hv pa_ex hn hdb he hpl) (h.use r rs fun vs H1 ds μ1 r1 rs1 rds q => ?_)
  exact q F N H1 vs (r1.weakF r.ext) rds
theorem ev_callTy {T : String} (hg : Gl X x) (hm : X.mg x = none) (hv : bootBuiltins x = some (.type T)) (h : EvA X S (e :: es) Γ μ fun ds μ1 => CallG X S (.type T) ds μ1 Q) (hn : x ≠ "__name__" := by decide) (hdb : (x == ("__debug__" : Str)) = false := by decide)
    (he : starEach (e :: es) X.env = (false, eval e X.env) :: starEach es X.env := by rfl) (hpl : (backTo pos (starEach es X.env)).any (·.1) = false := by rfl) : EvG X S (.Call (.Name x p) (e :: es) [] pos) Γ μ Q := by
  intro F N σ H r rs
  refine ex_of (pe_callTy cpr_self hg hm hv pa_ex hn hdb he hpl) (h.use r rs fun vs H1 ds μ1 r1 rs1 rds q => ?_)
  exact q F N H1 vs (r1.weakF r.ext) rds
theorem RpA.one {S : Sg} {H : Hp} {vs : List V} {d : D} (h : RpA S H vs [d]) : ∃ v, vs = [v] ∧ Rp S H v d := by
  cases h with
  | cons h t =>
  cases t
  exact ⟨_, rfl, h⟩
theorem RpA.two {S : Sg} {H : Hp} {vs : List V} {d e : D} (h : RpA S H vs [d, e]) : ∃ v w, vs = [v, w] ∧ Rp S H v d ∧ Rp S H w e := by
  cases h with
  | cons h t =>
  obtain ⟨w, rfl, r⟩ := t.one
  exact ⟨_, _, rfl, h, r⟩
theorem sq_at {F N H : Hp} {l : List D} {v : V} (hK : X.K = S.K) (h : DrfT μ d l) (r : RelM S F N H μ) (rv : Rp S (vis N H (adr μ)) v d) : ∃ a xs, v = .ref a ∧ (SqL X.K H a xs ∨ SqT X.K H a xs) ∧ RpA S (vis N H (adr μ)) xs l := by
  cases h with
  | l h =>
    obtain ⟨a, xs, rfl, ha, hs⟩ := h.at r.toRelM0 rv
    exact ⟨a, xs, rfl, .inl (SqL.of ha), hs⟩
  | t l =>
    cases rv with
    | @tup a xs _ ha hs => exact ⟨a, xs, rfl, .inr (by rw [hK]; exact vis_le.t ha.1), hs⟩
theorem cg_len {l : List D} (hK : X.K = S.K) (h : DrfT μ d l) (k : Q (.int (l.length : Int)) μ) : CallG X S (.builtin "len") [d] μ Q := fun F N H xs r rq => by
  obtain ⟨v, rfl, rv⟩ := rq.one
  obtain ⟨a, ys, rfl, hq, hs⟩ := sq_at hK h r rv
  exact cp_of call_len_seq ⟨a, ys, rfl, hq, _, μ, r, by rw [hs.length]; exact .int _, k⟩
theorem cg_lenS {z : Str} (hz : z.length ≤ 16777216) (k : Q (.int (z.length : Int)) μ) : CallG X S (.builtin "len") [.str z] μ Q := fun F N H xs r rq => by
  obtain ⟨v, rfl, rv⟩ := rq.one
  cases rv
  exact cp_of call_len_str ⟨z, rfl, by rw [sizeLine_eq]; exact hz, _, μ, r, .int _, k⟩
theorem cg_lenScr {ns : List Int} (hK : X.K = S.K) (k : Q (.int (ns.length : Int)) μ) : CallG X S (.builtin "len") [.scr ns] μ Q := fun F N H xs r rq => by
  obtain ⟨v, rfl, rv⟩ := rq.one
  cases rv with
  | scr h =>
  exact cp_of call_len_seq ⟨_, _, rfl, .inl (by rw [hK]; exact vis_le.l h), _, μ, r, by rw [List.length_map]; exact .int _, k⟩
theorem cg_int {i : Int} (k : Q (.int i) μ) : CallG X S (.type "int") [.int i] μ Q := fun F N H xs r rq => by
  obtain ⟨v, rfl, rv⟩ := rq.one
  cases rv
  exact cp_of call_int1 (.inl ⟨i, rfl, _, μ, r, .int _, k⟩)
structure IsC (K : PySem.W.Frag) (C : Addr) : Prop where
  cl : Cls K C
  ha : PySem.W.findIn K (.ref C) "__class__" = some (some (.builtin "object.__class__"))
  hn : PySem.W.specialIn K (.builtin "object.__class__") "__get__" = some (some (.builtin "getset_descriptor.__get__"))
  htk : PySem.W.takesIn K (.builtin "object.__class__") = some true
  hm : PySem.W.mroIn K C (.type "object") = some true
inductive TyD (S : Sg0) (μ : Mem) : D → Value → Prop
  | non : TyD S μ .non (.type "NoneType")
  | bl (b : Bool) : TyD S μ (.bl b) (.type "bool")
  | int (i : Int) : TyD S μ (.int i) (.type "int")
  | str (x : Str) : TyD S μ (.str x) (.type "str")
  | lst {d : D} {l : List D} : Drf μ d l → TyD S μ d (.type "list")
  | tup (l : List D) : TyD S μ (.tup l) (.type "tuple")
  | obj {c : Nat} {l : List D} : IsC S.K (S.cls c) → TyD S μ (.obj c l) (.ref (S.cls c))
  | ins {a C : Addr} {fs : List (Str × D)} : IsC S.K C → (a, M.ins C fs) ∈ μ → TyD S μ (.ref a) (.ref C)
theorem TyD.at {S : Sg0} {F N H : Hp} {v : V} {t : Value} (h : TyD S μ d t) (r : RelM0 S F N H μ) (rv : Rp S (vis N H (adr μ)) v d) : TyX S.K H v t := by
  cases h with
  | non => cases rv; exact .base .non
  | bl => cases rv; exact .base (.bl _)
  | int => cases rv; exact .base (.int _)
  | str => cases rv; exact .base (.str _)
  | lst h =>
    obtain ⟨a, xs, rfl, ha, _⟩ := h.at r rv
    exact .base (.lst ha)
  | tup =>
    cases rv with
    | @tup a xs _ ha hs =>
    rcases vis_le.t ha.1 with ha | ⟨o, its, n, ha, hc, _⟩
    · rcases ha with ha | ⟨o, ha⟩
      · exact .base (.tup ha)
      · exact .fTuple ha
    · exact .kTuple ha hc
  | obj c =>
    cases rv with
    | obj ha _ _ => exact .base (.ins (vis_le _ _ ha) c.cl c.ha c.hn c.htk c.hm)
  | ins c hm =>
    cases rv
    obtain ⟨o, e, rm⟩ := r.find hm
    cases rm with
    | ins h => exact .base (.ins e c.cl c.ha c.hn c.htk c.hm)
theorem cg_isiT {n : String} {t : Value} {b : Bool} (hK : X.K = S.K) (ty : TyD S μ d t) (e : PySem.W.kitOne S.K t (.type n) = some b) (k : Q (.bl b) μ) : CallG X S (.builtin "isinstance") [d, .ty n] μ Q := fun F N H xs r rq => by
  obtain ⟨v, w, rfl, rv, rw'⟩ := rq.two
  cases rw'
  exact cp_of call_isi ⟨v, .ty n, t, .type n, b, rfl, .ty n, by rw [hK]; exact ty.at r.toRelM0 rv, by rw [hK]; exact e, _, μ, r, .bl _, k⟩
def IXt (X : Cx) : R2 := fun x y H Q => ∃ r : R2, IxR X r ∧ ∃ Q0 : VK, r x y H Q0 ∧ ∀ v H', Q0 v H' → Q v H'
theorem ixr_self : IxR X (IXt X) := by
  intro va sl pins s σ H x y v u Q I rx ry h hs
  obtain ⟨r, hr, Q0, q, m⟩ := h
  exact thn (hr va sl pins s σ H x y v u Q0 I rx ry q hs) fun _ _ ⟨z, H', I', rz, q⟩ => ⟨z, H', I', rz, m _ _ q⟩
def IxG (X : Cx) (S : Sg) (d1 d2 : D) (μ : Mem) (Q : QD) : Prop :=
  ∀ F N H x y, RelM S F N H μ → Rp S (vis N H (adr μ)) x d1 → Rp S (vis N H (adr μ)) y d2 → IXt X x y H (EndE S F N Q)
theorem ev_ix (hs : PlainIx b) (h : EvG X S a Γ μ fun d1 μ1 => EvG X S b Γ μ1 fun d2 μ2 => IxG X S d1 d2 μ2 Q) : EvG X S (.Subscript a b pos) Γ μ Q := by
  intro F N σ H r rs
  refine ex_of (pe_ix ixr_self pe_ex pe_ex hs) ?_
  refine h.use r rs fun x H1 d1 μ1 r1 rs1 rx hb => ?_
  refine hb.use r1 rs1 fun y H2 d2 μ2 r2 rs2 ry ho => ?_
  exact ho F N H2 x y (r2.weakF (r.ext.trans r1.ext)) (rx.ext r2.ext) ry
theorem RpA.atI {S : Sg} {Hv : Hp} {vs : List V} {ds : List D} {i : Int} {d : D} (r : RpA S Hv vs ds) (h : L2.atI ds i = some d) : ∃ v, L2.atI vs i = some v ∧ Rp S Hv v d := by
  unfold L2.atI at h ⊢
  rw [r.length]
  cases e : ixN ds.length i with
  | none => rw [e] at h; cases h
  | some j =>
    rw [e] at h
    exact r.get h
theorem ig_l {l : List D} {i : Int} {y : D} (h : Drf μ d l) (hi : atI l i = some y) (k : Q y μ) : IxG X S d (.int i) μ Q := fun F N H u v r ru rv => by
  cases rv
  obtain ⟨a, xs, rfl, ha, hs⟩ := h.at r.toRelM0 ru
  obtain ⟨w, hw, rw'⟩ := hs.atI hi
  exact ⟨_, ix_list, EndE S F N Q, ⟨a, xs, i, w, rfl, rfl, SqL.of ha, hw, y, μ, r, rw', k⟩, fun _ _ q => q⟩
theorem ig_s {z : Str} {i : Int} {c : Nat} (hz : z.length ≤ 16777216) (hi : atI z.cps.toList i = some c) (k : Q (.str ⟨#[c]⟩) μ) : IxG X S (.str z) (.int i) μ Q := fun F N H u v r ru rv => by
  cases rv
  cases ru
  exact ⟨_, ix_str, EndE S F N Q, ⟨z, i, c, rfl, rfl, by rw [sizeLine_eq]; exact hz, hi, _, μ, r, .str _, k⟩, fun _ _ q => q⟩
theorem ig_scr {ns : List Int} {i y : Int} (hK : X.K = S.K) (hi : atI ns i = some y) (k : Q (.int y) μ) : IxG X S (.scr ns) (.int i) μ Q := fun F N H u v r ru rv => by
  cases rv
  cases ru with
  | @scr a _ ha =>
  have hi' : atI (ns.map V.int) i = some (.int y) := by
    unfold atI at hi ⊢
    rw [List.length_map]
    cases e : ixN ns.length i with
    | none => rw [e] at hi; cases hi
    | some j =>
      rw [e] at hi
      have hi : ns[j]? = some y := hi
      show (ns.map V.int)[j]? = _
      rw [List.getElem?_map, hi]
      rfl
  exact ⟨_, ix_list, EndE S F N Q, ⟨a, _, i, _, rfl, rfl, by rw [hK]; exact vis_le.l ha, hi', _, μ, r, .int _, k⟩, fun _ _ q => q⟩
def cutD (l : List D) (lo hi : Option Int) : List D := (l.drop (HT.sIx l.length 0 lo)).take (HT.sIx l.length l.length hi - HT.sIx l.length 0 lo)
theorem RpA.cut {S : Sg} {Hv : Hp} {vs : List V} {ds : List D} {lo hi : Option Int} (r : RpA S Hv vs ds) : RpA S Hv (cutV vs lo hi) (cutD ds lo hi) := by
  unfold cutV cutD
  rw [r.length]
  exact (r.drop _).take _
def PoG (X : Cx) (S : Sg) (e : Option Expr) (Γ : Gm) (μ : Mem) (P : Option Int → Mem → Prop) : Prop :=
  ∀ F N σ H, RelM S F N H μ → RelS S (vis N H (adr μ)) σ Γ → ∃ t, PO X e t ∧ ∀ Q : Option Int → Hp → Prop, (∀ i H' μ', RelM S (vis N H (adr μ)) N H' μ' → RelS S (vis N H' (adr μ')) σ Γ → P i μ' → Q i H') → t σ H Q
theorem po_no {P : Option Int → Mem → Prop} (k : P none μ) : PoG X S none Γ μ P := fun F N σ H r rs => ⟨_, po_none, fun Q q => q none H μ r.top rs k⟩
theorem po_so {P : Option Int → Mem → Prop} (h : EvG X S e Γ μ fun d μ' => ∃ i, d = .int i ∧ P (some i) μ') : PoG X S (some e) Γ μ P := fun F N σ H r rs => by
  refine ⟨_, po_some pe_ex, fun Q q => h.use r rs fun v H' d μ' r' rs' rd ⟨i, ei, k⟩ => ?_⟩
  subst ei
  cases rd
  exact ⟨i, rfl, q (some i) H' μ' r' rs' k⟩
def SlXt (X : Cx) : V → Option Int → Option Int → Hp → VK → Prop := fun x lo hi H Q => ∃ r, SlR X r ∧ ∃ Q0 : VK, r x lo hi H Q0 ∧ ∀ v H', Q0 v H' → Q v H'
theorem slr_self : SlR X (SlXt X) := by
  intro pins s σ H x v vl vu lo hi sl Q I rx hs pl pu h
  obtain ⟨r, hr, Q0, q, m⟩ := h
  obtain ⟨T, id, h1, h2, h3⟩ := hr pins s σ H x v vl vu lo hi sl Q0 I rx hs pl pu q
  exact ⟨T, id, h1, h2, thn h3 fun _ _ ⟨z, H', I', rz, q⟩ => ⟨z, H', I', rz, m _ _ q⟩⟩
def SlG (X : Cx) (S : Sg) (d : D) (lo hi : Option Int) (μ : Mem) (Q : QD) : Prop :=
  ∀ F N H x, RelM S F N H μ → Rp S (vis N H (adr μ)) x d → SlXt X x lo hi H (EndE S F N Q)
def POt (X : Cx) (e : Option Expr) : TO := fun σ H Q => ∃ t, PO X e t ∧ ∃ Q0, t σ H Q0 ∧ ∀ i H', Q0 i H' → Q i H'
theorem po_ex {e : Option Expr} : PO X e (POt X e) := ⟨fun pins s σ H Q I h => by
  obtain ⟨t, ht, Q0, q, m⟩ := h
  exact thn (ht.run pins s σ H Q0 I q) fun _ _ ⟨v, H', a, b, q'⟩ => ⟨v, H', a, b, m _ _ q'⟩⟩
theorem ev_sl {lo hi : Option Expr} {p2 : Pos} (h : EvG X S e Γ μ fun d μ1 => PoG X S lo Γ μ1 fun l μ2 => PoG X S hi Γ μ2 fun u μ3 => SlG X S d l u μ3 Q) : EvG X S (.Subscript e (.Slice lo hi none p2) pos) Γ μ Q := by
  intro F N σ H r rs
  refine ex_of (pe_slice slr_self pe_ex po_ex po_ex) ?_
  refine h.use r rs fun x H1 d μ1 r1 rs1 rx q1 => ?_
  obtain ⟨t, ht, q⟩ := q1 F N σ H1 (r1.weakF r.ext) rs1
  refine ⟨t, ht, _, q (fun i H2 => ∃ μ2, RelM S (vis N H1 (adr μ1)) N H2 μ2 ∧ RelS S (vis N H2 (adr μ2)) σ Γ ∧ PoG X S hi Γ μ2 fun u μ3 => SlG X S d i u μ3 Q) (fun i H2 μ2 r2 rs2 k => ⟨μ2, r2, rs2, k⟩), ?_⟩
  rintro i H2 ⟨μ2, r2, rs2, q2⟩
  obtain ⟨t', ht', q'⟩ := q2 F N σ H2 (r2.weakF (r.ext.trans r1.ext)) rs2
  refine ⟨t', ht', _, q' (fun u H3 => ∃ μ3, RelM S (vis N H2 (adr μ2)) N H3 μ3 ∧ SlG X S d i u μ3 Q) (fun u H3 μ3 r3 rs3 k => ⟨μ3, r3, k⟩), ?_⟩
  rintro u H3 ⟨μ3, r3, q3⟩
  exact q3 F N H3 x (r3.weakF ((r.ext.trans r1.ext).trans r2.ext)) (rx.ext (r2.ext.trans r3.ext))
theorem slg_l {l : List D} {lo hi : Option Int} (h : Drf μ d l) (k : Q (.lst (cutD l lo hi)) μ) : SlG X S d lo hi μ Q := fun F N H x r rx => by
  obtain ⟨a, xs, rfl, ha, hs⟩ := h.at r.toRelM0 rx
  refine ⟨_, sl_list, EndE S F N Q, ⟨a, xs, rfl, SqL.of ha, fun p hp => ?_⟩, fun _ _ q => q⟩
  exact ⟨_, μ, r.alloc hp, .lst (alloc_at r.toRelM0 hp) (hs.cut.ext (vis_new r.toRelM0 hp)), k⟩
theorem slg_s {z : Str} {lo hi : Option Int} (hz : z.length ≤ 16777216) (k : Q (.str (cutS z lo hi)) μ) : SlG X S (.str z) lo hi μ Q := fun F N H x r rx => by
  cases rx
  exact ⟨_, sl_str, EndE S F N Q, ⟨z, rfl, by rw [sizeLine_eq]; exact hz, _, μ, r, .str _, k⟩, fun _ _ q => q⟩
end
end GL
namespace GL
open PySem L2 PySem.Spec PyProof.Rows
abbrev SpG := List D → Mem → QD → QE → Prop
def spG (S : Sg0) (sg : SpG) : Sp := fun vs H Q E => ∃ F N ds μ, RelM0 S F N H μ ∧ RpA S (vis N H (adr μ)) vs ds ∧
  sg ds μ (fun d μ' => ∀ v H', RelM0 S F N H' μ' → Rp S (vis N H' (adr μ')) v d → Q v H')
    (fun c fs μ' => ∀ dd vs H', RelM0 S F N H' μ' → H' dd = some (.xd ((S.nms c).zip vs)) → vs.length = (S.nms c).length → RpA S (vis N H' (adr μ')) vs fs → N dd = none → dd ∉ adr μ' → E (.ref (S.cls c)) (some dd) H')
inductive Split : Mem → Mem → Mem → Prop
  | nil : Split [] [] []
  | l {p : Addr × M} {μ a b : Mem} : Split μ a b → Split (p :: μ) (p :: a) b
  | r {p : Addr × M} {μ a b : Mem} : Split μ a b → Split (p :: μ) a (p :: b)
theorem Split.none : ∀ μ : Mem, Split μ [] μ
  | [] => .nil
  | _ :: μ => .r (Split.none μ)
theorem Split.all : ∀ μ : Mem, Split μ μ []
  | [] => .nil
  | _ :: μ => .l (Split.all μ)
theorem Split.mem {μ a b : Mem} (s : Split μ a b) : ∀ q, q ∈ μ ↔ q ∈ a ∨ q ∈ b := by
  induction s with
  | nil => simp
  | l _ ih => intro q; simp only [List.mem_cons, ih q]; exact or_assoc.symm
  | r _ ih => intro q; simp only [List.mem_cons, ih q]; exact or_left_comm
theorem Split.adr {μ a b : Mem} (s : Split μ a b) (c : Addr) : c ∈ GL.adr μ ↔ c ∈ GL.adr a ∨ c ∈ GL.adr b := by
  simp only [GL.adr, List.mem_map]
  constructor
  · rintro ⟨q, hq, e⟩
    rcases (s.mem q).mp hq with h | h
    · exact .inl ⟨q, h, e⟩
    · exact .inr ⟨q, h, e⟩
  · rintro (⟨q, hq, e⟩ | ⟨q, hq, e⟩)
    · exact ⟨q, (s.mem q).mpr (.inl hq), e⟩
    · exact ⟨q, (s.mem q).mpr (.inr hq), e⟩
theorem Split.nd {μ a b : Mem} (s : Split μ a b) (nd : (GL.adr μ).Nodup) : (GL.adr a).Nodup ∧ (GL.adr b).Nodup ∧ ∀ c, c ∈ GL.adr a → c ∉ GL.adr b := by
  induction s with
  | nil => exact ⟨List.nodup_nil, List.nodup_nil, fun c h => by cases h⟩
  | @l p μ a b s ih =>
    obtain ⟨h1, h2⟩ := List.nodup_cons.mp nd
    obtain ⟨i1, i2, i3⟩ := ih h2
    refine ⟨List.nodup_cons.mpr ⟨fun h => h1 ((s.adr _).mpr (.inl h)), i1⟩, i2, fun c h => ?_⟩
    rcases List.mem_cons.mp h with e | h
    · exact fun h' => h1 ((s.adr _).mpr (.inr (e ▸ h')))
    · exact i3 c h
  | @r p μ a b s ih =>
    obtain ⟨h1, h2⟩ := List.nodup_cons.mp nd
    obtain ⟨i1, i2, i3⟩ := ih h2
    refine ⟨i1, List.nodup_cons.mpr ⟨fun h => h1 ((s.adr _).mpr (.inr h)), i2⟩, fun c h h' => ?_⟩
    rcases List.mem_cons.mp h' with e | h'
    · exact h1 ((s.adr _).mpr (.inl (e ▸ h)))
    · exact i3 c h h'
def hidP (N H : Hp) (b : Mem) : Hp := fun c => if c ∈ adr b then H c else N c
section
variable {S : Sg0} {F N H H' : Hp} {μ a b μ' : Mem}
theorem hidP_in (r : RelM0 S F N H μ) (s : Split μ a b) {c : Addr} (h : c ∈ adr b) : ∃ o, hidP N H b c = some o ∧ H c = some o := by
  obtain ⟨o, e⟩ := adr_some r ((s.adr c).mpr (.inr h))
  exact ⟨o, by unfold hidP; rw [if_pos h]; exact e, e⟩
theorem hidP_out {c : Addr} (h : c ∉ adr b) : hidP N H b c = N c := if_neg h
theorem split_vis (r : RelM0 S F N H μ) (s : Split μ a b) : vis (hidP N H b) H (adr a) = vis N H (adr μ) := by
  funext c
  unfold vis
  by_cases hb : c ∈ adr b
  · obtain ⟨o, e, _⟩ := hidP_in r s hb
    rw [if_pos (.inl (by rw [e]; rfl)), if_pos (.inr ((s.adr c).mpr (.inr hb)))]
  · rw [hidP_out hb]
    by_cases ha : c ∈ adr a
    · rw [if_pos (.inr ha), if_pos (.inr ((s.adr c).mpr (.inl ha)))]
    · have hm : c ∉ adr μ := fun h => ((s.adr c).mp h).elim ha hb
      by_cases hN : (N c).isSome = true
      · rw [if_pos (.inl hN), if_pos (.inl hN)]
      · rw [if_neg (by simp [hN, ha]), if_neg (by simp [hN, hm])]
theorem RelM0.split (r : RelM0 S F N H μ) (s : Split μ a b) : RelM0 S (vis N H (adr μ)) (hidP N H b) H a := by
  have ev := split_vis r s
  obtain ⟨n1, n2, n3⟩ := s.nd r.nd
  refine ⟨fun c o e => ?_, fun c hc => ?_, by rw [ev]; exact Ex.refl _, n1, fun q hq => ?_, fun c xs e => ?_⟩
  rotate_left 3
  · by_cases hb : c ∈ adr b
    · unfold hidP at e
      rw [if_pos hb] at e
      obtain ⟨q, hq, hqc⟩ := List.mem_map.mp ((s.adr c).mpr (.inr hb))
      obtain ⟨o, e1, e2⟩ := r.mem q hq
      rw [hqc, e] at e1
      cases e1
      exact e2.notup xs rfl
    · rw [hidP_out hb] at e
      exact r.tup c xs e
  · by_cases hb : c ∈ adr b
    · unfold hidP at e
      rw [if_pos hb] at e
      exact e
    · rw [hidP_out hb] at e
      exact r.hid c o e
  · rw [hidP_out (n3 c hc)]
    exact r.dis c ((s.adr c).mpr (.inl hc))
  · rw [ev]
    exact r.mem q ((s.mem q).mpr (.inl hq))
theorem RelM0.join (r : RelM0 S F N H μ) (s : Split μ a b) (r' : RelM0 S (vis N H (adr μ)) (hidP N H b) H' μ') :
    RelM0 S F N H' (μ' ++ b) ∧ vis N H' (adr (μ' ++ b)) = vis (hidP N H b) H' (adr μ') := by
  have key : ∀ c, c ∈ adr b → c ∉ adr μ' := fun c hc h => by
    obtain ⟨o, e, _⟩ := hidP_in r s hc
    have := r'.dis c h
    rw [e] at this
    cases this
  have hadr : ∀ c, c ∈ adr (μ' ++ b) ↔ c ∈ adr μ' ∨ c ∈ adr b := fun c => by simp only [adr, List.map_append, List.mem_append]
  have ev : vis N H' (adr (μ' ++ b)) = vis (hidP N H b) H' (adr μ') := by
    funext c
    unfold vis
    by_cases hb : c ∈ adr b
    · obtain ⟨o, e, _⟩ := hidP_in r s hb
      rw [if_pos (.inr ((hadr c).mpr (.inr hb))), if_pos (.inl (by rw [e]; rfl))]
    · rw [hidP_out hb]
      by_cases ha : c ∈ adr μ'
      · rw [if_pos (.inr ((hadr c).mpr (.inl ha))), if_pos (.inr ha)]
      · have hm : c ∉ adr (μ' ++ b) := fun h => ((hadr c).mp h).elim ha hb
        by_cases hN : (N c).isSome = true
        · rw [if_pos (.inl hN), if_pos (.inl hN)]
        · rw [if_neg (by simp only [hN, hm]; simp), if_neg (by simp only [hN, ha]; simp)]
  obtain ⟨n1, n2, n3⟩ := s.nd r.nd
  refine ⟨⟨fun c o e => ?_, fun c hc => ?_, ?_, ?_, fun q hq => ?_, r.tup⟩, ev⟩
  · have hb : c ∉ adr b := fun h => by
      have := r.dis c ((s.adr c).mpr (.inr h))
      rw [this] at e
      cases e
    exact r'.hid c o (by rw [hidP_out hb]; exact e)
  · rcases (hadr c).mp hc with h | h
    · have := r'.dis c h
      rw [hidP_out (fun z => key c z h)] at this
      exact this
    · exact r.dis c ((s.adr c).mpr (.inr h))
  · rw [ev]
    exact r.ext.trans r'.ext
  · show ((μ' ++ b).map _).Nodup
    rw [List.map_append]
    exact List.nodup_append.mpr ⟨r'.nd, n2, fun x hx y hy e => key y hy (e ▸ hx)⟩
  · rw [ev]
    rcases List.mem_append.mp hq with h | h
    · exact r'.mem q h
    · obtain ⟨o, e, m⟩ := r.mem q ((s.mem q).mpr (.inr h))
      obtain ⟨o', e1, e2⟩ := hidP_in r s (List.mem_map_of_mem h : q.1 ∈ adr b)
      rw [e] at e2
      cases e2
      exact ⟨o, r'.hid _ _ e1, m.ext r'.ext⟩
end
def AskG (S : Sg) (sg : SpG) (ds : List D) (μ : Mem) (Q : QD) : Prop := ∃ a b, Split μ a b ∧ sg ds a (fun d μ' => Q d (μ' ++ b)) (fun C fs μ' => S.qx C fs (μ' ++ b))
def MonoG (sg : SpG) : Prop := ∀ ds μ Q Q' E E', sg ds μ Q E → (∀ d μ', Q d μ' → Q' d μ') → (∀ C fs μ', E C fs μ' → E' C fs μ') → sg ds μ Q' E'
theorem ask_sp {S : Sg} {sg : SpG} {F N H : Hp} {μ : Mem} {vs : List V} {ds : List D} {Q : QD} (hm : MonoG sg) (r : RelM S F N H μ) (rv : RpA S (vis N H (adr μ)) vs ds) (h : AskG S sg ds μ Q) : spG S sg vs H (EndE S F N Q) S.wx := by
  obtain ⟨a, b, s, h⟩ := h
  refine ⟨_, _, ds, a, r.toRelM0.split s, by rw [split_vis r.toRelM0 s]; exact rv, hm _ _ _ _ _ _ h (fun d μ' q v H' r' rd => ?_) (fun c fs μ' q dd vs H' r' hd hl hf n1 n2 => ?_)⟩
  · obtain ⟨j1, j2⟩ := r.toRelM0.join s r'
    exact ⟨d, μ' ++ b, ⟨j1, r.iv⟩, by rw [j2]; exact rd, q⟩
  · obtain ⟨j1, j2⟩ := r.toRelM0.join s r'
    have hb : dd ∉ adr b := fun z => by
      obtain ⟨o, e, _⟩ := hidP_in r.toRelM0 s z
      rw [n1] at e
      cases e
    rw [hidP_out hb] at n1
    exact r.iv _ _ _ ⟨c, dd, vs, fs, μ' ++ b, rfl, rfl, hd, hl, by rw [j2]; exact hf, j1, n1, (fun z => by
      rw [adr, List.map_append] at z
      exact (List.mem_append.mp z).elim n2 hb), q⟩
section
variable {X : Cx} {S : Sg} {CX : CXT} {k : Nat} {f C : Addr} {fd : FuncData} {ps : List Str} {sg : SpG} {dvs : List V} {dfs : List Value} {dds : List D} {x m : Str} {p pos apos : Pos} {e o : Expr} {es : List Expr} {Γ : Gm} {μ : Mem} {Q : QD} {d : D}
theorem ev_call (hm' : MonoG sg) (F : FnOk X.prog X.w X.K X.mg X.base CX k f fd ps (spG S sg)) (hr : Room k X.A) (hg : Gl X x) (hm : X.mg x = some (.ref f)) (hk : PySem.W.keepIn X.K (.ref f) = true) (hb : Binds X.K fd ps dfs) (hd : Vals dvs dfs) (hdd : ∀ Hv, RpA S Hv dvs dds) (hx : Passes CX X S.wx)
    (h : EvA X S (e :: es) Γ μ fun ds μ1 => AskG S sg (ds ++ dds) μ1 Q)
    (hdb : (x == ("__debug__" : Str)) = false := by decide) (he : starEach (e :: es) X.env = (false, eval e X.env) :: starEach es X.env := by rfl) (hpl : (backTo pos (starEach es X.env)).any (·.1) = false := by rfl) :
    EvG X S (.Call (.Name x p) (e :: es) [] pos) Γ μ Q := by
  intro F' N σ H r rs
  refine ex_of (pe_call (E := S.wx) F hr hg hm hk hb hd hx pa_ex hdb he hpl) (h.use r rs fun vs H1 ds μ1 r1 rs1 rds q => ?_)
  exact ask_sp hm' (r1.weakF r.ext) (rds.append (hdd _)) q
inductive Rcv (S : Sg0) (μ : Mem) : D → Addr → List Str → Prop
  | obj {c : Nat} {l : List D} : Rcv S μ (.obj c l) (S.cls c) (S.nms c)
  | ins {a C : Addr} {fs : List (Str × D)} : (a, M.ins C fs) ∈ μ → Rcv S μ (.ref a) C (fs.map (·.1))
theorem lookup_none : ∀ {ns : List Str} {vs : List V} {m : Str}, m ∉ ns → (ns.zip vs).lookup m = none
  | [], _, _, _ => rfl
  | _ :: _, [], _, _ => rfl
  | n :: ns, v :: vs, m, h => by
    have h1 : m ≠ n := fun e => h (e ▸ List.mem_cons_self)
    have ih := lookup_none (ns := ns) (vs := vs) (m := m) fun z => h (List.mem_cons_of_mem _ z)
    show List.lookup m ((n, v) :: ns.zip vs) = none
    have hb : (m == n) = false := beq_eq_false_iff_ne.mpr h1
    simp only [List.lookup, hb]
    exact ih
theorem RpF.none {S : Sg0} {Hv : Hp} {m : Str} : ∀ {vs : List (Str × V)} {fs : List (Str × D)}, RpF S Hv vs fs → m ∉ fs.map (·.1) → vs.lookup m = Option.none
  | _, _, .nil, _ => rfl
  | _, _, @RpF.cons _ _ f v d vs ds _ t, h => by
    have h1 : m ≠ f := fun e => h (by rw [e]; exact List.mem_cons_self)
    have ih := RpF.none (m := m) t fun z => h (List.mem_cons_of_mem _ z)
    have hb : (m == f) = false := beq_eq_false_iff_ne.mpr h1
    simp only [List.lookup, hb]
    exact ih
theorem Rcv.at {S : Sg0} {F N H : Hp} {ns : List Str} {v : V} (h : Rcv S μ d C ns) (r : RelM0 S F N H μ) (rv : Rp S (vis N H (adr μ)) v d) : ∃ a dx fvs, v = .ref a ∧ H a = some (.ins C dx fvs) ∧ ∀ m, m ∉ ns → fvs.lookup m = none := by
  cases h with
  | obj =>
    cases rv with
    | obj ha hl hs => exact ⟨_, _, _, rfl, vis_le _ _ ha, fun m hm => lookup_none hm⟩
  | ins hm =>
    cases rv
    obtain ⟨o, e, rm⟩ := r.find hm
    cases rm with
    | ins h => exact ⟨_, _, _, rfl, e, fun m hm => h.none hm⟩
def NewG (S : Sg) (C : Addr) (sg : SpG) (ds : List D) (μ : Mem) (Q : QD) : Prop := ∃ a b, Split μ a b ∧ ∀ x, x ∉ adr μ → sg (.ref x :: ds) ((x, .ins C []) :: a) (fun d μ' => d = .non ∧ Q (.ref x) (μ' ++ b)) (fun C fs μ' => S.qx C fs (μ' ++ b))
theorem new_sp {F N H : Hp} {vs : List V} {ds : List D} (hm : MonoG sg) (r : RelM S F N H μ) (rv : RpA S (vis N H (adr μ)) vs ds) (h : NewG S C sg ds μ Q) (z dx : Addr) (hz : H z = none) (hdx : H dx = none) (hne : dx ≠ z) :
    spG S sg (.ref z :: vs) (upd (upd H dx (.own z)) z (.ins C dx [])) (fun v H2 => v = .non ∧ EndE S F N Q (.ref z) H2) S.wx := by
  obtain ⟨a, b, s, h⟩ := h
  have r1 := r.alloc (o := .own z) hdx
  have hz1 : upd H dx (.own z) z = none := by rw [upd_ne (Ne.symm hne)]; exact hz
  have r2 := r1.allocM (m := .ins C []) (o := .ins C dx []) hz1 (.ins .nil)
  have s2 : Split ((z, M.ins C []) :: μ) ((z, .ins C []) :: a) b := .l s
  have A : AskG S sg (.ref z :: ds) ((z, M.ins C []) :: μ) (fun d μ' => d = .non ∧ Q (.ref z) μ') := ⟨_, b, s2, h z (adr_new r.toRelM0 hz)⟩
  obtain ⟨F1, N1, ds1, μ1, p1, p2, p3⟩ := ask_sp hm r2 (.cons (.ref z) (rv.ext ((vis_new r.toRelM0 hdx).trans (vis_same r1.toRelM0 hz1)))) A
  refine ⟨F1, N1, ds1, μ1, p1, p2, hm _ _ _ _ _ _ p3 (fun d μ' q v H' r' rd => ?_) fun _ _ _ q => q⟩
  obtain ⟨d', μ2, q1, q2, q3, q4⟩ := q v H' r' rd
  subst q3
  cases q2
  exact ⟨rfl, _, μ2, q1, .ref z, q4⟩
theorem ev_make (hm' : MonoG sg) (M : Mk X.K C f) (F : FnOk X.prog X.w X.K X.mg X.base CX k f fd ps (spG S sg)) (hr : Room (k + 1) X.A) (hg : Gl X x) (hm : X.mg x = some (.ref C)) (hb : Binds X.K fd ps dfs) (hd : Vals dvs dfs) (hdd : ∀ Hv, RpA S Hv dvs dds) (hx : Passes CX X S.wx)
    (h : EvA X S (e :: es) Γ μ fun ds μ1 => NewG S C sg (ds ++ dds) μ1 Q)
    (hdb : (x == ("__debug__" : Str)) = false := by decide) (he : starEach (e :: es) X.env = (false, eval e X.env) :: starEach es X.env := by rfl) (hpl : (backTo pos (starEach es X.env)).any (·.1) = false := by rfl) :
    EvG X S (.Call (.Name x p) (e :: es) [] pos) Γ μ Q := by
  intro F' N σ H r rs
  refine ex_of (pe_make (E := S.wx) M F hr hg hm hb hd hx pa_ex hdb he hpl) (h.use r rs fun vs H1 ds μ1 r1 rs1 rds q => ?_)
  intro z dx hz hdx hne
  exact new_sp hm' (r1.weakF r.ext) (rds.append (hdd _)) q z dx hz hdx hne
theorem ev_make0 (hm' : MonoG sg) (M : Mk X.K C f) (F : FnOk X.prog X.w X.K X.mg X.base CX k f fd ps (spG S sg)) (hr : Room (k + 1) X.A) (hg : Gl X x) (hm : X.mg x = some (.ref C)) (hb : Binds X.K fd ps dfs) (hd : Vals dvs dfs) (hdd : ∀ Hv, RpA S Hv dvs dds) (hx : Passes CX X S.wx)
    (h : NewG S C sg dds μ Q) (hdb : (x == ("__debug__" : Str)) = false := by decide) : EvG X S (.Call (.Name x p) [] [] pos) Γ μ Q := by
  intro F' N σ H r rs
  refine ex_of (pe_make0 (E := S.wx) M F hr hg hm hb hd hx hdb) ?_
  intro z dx hz hdx hne
  exact new_sp hm' r (hdd _) h z dx hz hdx hne
def FrzQ (S : Sg0) (Q : QD) : QD := fun d μ => ∃ a, d = .ref a ∧ ∃ μ', (∃ l, Del a (.lst l) μ μ' ∧ Q (.lst l) μ') ∨ (∃ c l, Del a (.ins (S.cls c) ((S.nms c).zip l)) μ μ' ∧ (S.nms c).length = l.length ∧ Q (.obj c l) μ')
theorem frz_end {F N H : Hp} {v : V} (h : EndE S F N (FrzQ S Q) v H) : EndE S F N Q v H := by
  obtain ⟨d, μ1, r, rd, a, rfl, μ', ⟨l, u, q⟩ | ⟨c, l, u, hl, q⟩⟩ := h
  · cases rd
    exact ⟨_, μ', r.del u, r.froz u, q⟩
  · cases rd
    exact ⟨_, μ', r.del u, r.frozI u hl, q⟩
theorem ev_frz (h : EvG X S e Γ μ (FrzQ S Q)) : EvG X S e Γ μ Q := fun F N σ H r rs => (h F N σ H r rs).mono fun _ _ q => frz_end q
theorem bl_frz {sts : List Stmt} {i : Nat} {a : Addr} {l : List D} {μ' : Mem} {E : EG} (hi : Γ[i]? = some (some (.ref a))) (u : Del a (.lst l) μ μ') (h : BlG X S sts (Γ.set i (some (.lst l))) μ' E) : BlG X S sts Γ μ E := fun F N σ H r rs => by
  obtain ⟨v, hv, rv⟩ := RelS.get rs hi
  cases rv
  exact h F N σ H (r.del u) (RelS.frz hv (r.froz u) (RelS.ext (vis_del r.toRelM0 u) rs))
inductive FldG (S : Sg0) (μ : Mem) : D → Addr → Str → D → Prop
  | obj {c : Nat} {l : List D} {i : Nat} {f : Str} {y : D} : (S.nms c)[i]? = some f → (S.nms c).Nodup → l[i]? = some y → FldG S μ (.obj c l) (S.cls c) f y
  | ins {a C : Addr} {fs : List (Str × D)} {f : Str} {y : D} : (a, M.ins C fs) ∈ μ → fs.lookup f = some y → FldG S μ (.ref a) C f y
theorem lookup_zip : ∀ {ns : List Str} {vs : List V} {i : Nat} {f : Str} {v : V}, ns.Nodup → ns[i]? = some f → vs[i]? = some v → (ns.zip vs).lookup f = some v
  | [], _, _, _, _, _, h, _ => by simp at h
  | _ :: _, [], _, _, _, _, _, h => by simp at h
  | n :: ns, w :: vs, 0, f, v, nd, h1, h2 => by
    simp at h1 h2
    subst h1 h2
    show List.lookup n ((n, w) :: ns.zip vs) = some w
    simp [List.lookup]
  | n :: ns, w :: vs, i + 1, f, v, nd, h1, h2 => by
    have h1 : ns[i]? = some f := by simpa using h1
    have h2 : vs[i]? = some v := by simpa using h2
    obtain ⟨n1, n2⟩ := List.nodup_cons.mp nd
    have hne : f ≠ n := fun e => n1 (e ▸ List.mem_of_getElem? h1)
    have ih := lookup_zip n2 h1 h2
    show List.lookup f ((n, w) :: ns.zip vs) = some v
    have hb : (f == n) = false := beq_eq_false_iff_ne.mpr hne
    simp only [List.lookup, hb]
    exact ih
theorem RpF.look {S : Sg0} {Hv : Hp} {f : Str} {y : D} : ∀ {vs : List (Str × V)} {fs : List (Str × D)}, RpF S Hv vs fs → fs.lookup f = some y → ∃ v, vs.lookup f = some v ∧ Rp S Hv v y
  | _, _, .nil, h => by cases h
  | _, _, @RpF.cons _ _ g v d vs ds r t, h => by
    by_cases e : f = g
    · subst e
      simp only [List.lookup, beq_self_eq_true] at h ⊢
      cases h
      exact ⟨v, rfl, r⟩
    · have hb : (f == g) = false := beq_eq_false_iff_ne.mpr e
      simp only [List.lookup, hb] at h ⊢
      exact RpF.look t h
theorem FldG.at {S : Sg0} {F N H : Hp} {f : Str} {y : D} {v : V} (h : FldG S μ d C f y) (r : RelM0 S F N H μ) (rv : Rp S (vis N H (adr μ)) v d) : ∃ a dx fvs w, v = .ref a ∧ H a = some (.ins C dx fvs) ∧ fvs.lookup f = some w ∧ Rp S (vis N H (adr μ)) w y := by
  cases h with
  | obj hi nd hy =>
    cases rv with
    | obj ha hl hs =>
    obtain ⟨w, hw, rw'⟩ := hs.get hy
    exact ⟨_, _, _, w, rfl, vis_le _ _ ha, lookup_zip nd hi hw, rw'⟩
  | ins hm hl =>
    cases rv
    obtain ⟨o, e, rm⟩ := r.find hm
    cases rm with
    | ins h =>
    obtain ⟨w, hw, rw'⟩ := h.look hl
    exact ⟨_, _, _, w, rfl, e, hw, rw'⟩
theorem ev_fld {f : Str} (c : Cls X.K C) (n : NoAttr X.K C f) (h : EvG X S e Γ μ fun d μ1 => ∃ y, FldG S μ1 d C f y ∧ Q y μ1) (hb : attributeBase e f X.env (eval e X.env) = eval e X.env := by rfl) : EvG X S (.Attribute e f pos) Γ μ Q := by
  intro F N σ H r rs
  refine ex_of (pe_fld pe_ex hb) (h.use r rs fun v H1 d μ1 r1 rs1 rd ⟨y, q1, q2⟩ => ?_)
  obtain ⟨a, dx, fvs, w, e1, e2, e3, e4⟩ := q1.at r1.toRelM0 rd
  exact ⟨a, C, dx, fvs, w, e1, e2, c, n, e3, y, μ1, r1.weakF r.ext, e4, q2⟩
def putD (f : Str) (d : D) : List (Str × D) → List (Str × D)
  | [] => [(f, d)]
  | (g, x) :: r => if g = f then (g, d) :: r else (g, x) :: putD f d r
theorem RpF.put {S : Sg0} {Hv : Hp} {f : Str} {v : V} {y : D} (rv : Rp S Hv v y) : ∀ {vs : List (Str × V)} {fs : List (Str × D)}, RpF S Hv vs fs → RpF S Hv (putF f v vs) (putD f y fs)
  | _, _, .nil => .cons rv .nil
  | _, _, @RpF.cons _ _ g w d vs ds r t => by
    show RpF S Hv (if g = f then (g, v) :: vs else (g, w) :: putF f v vs) (if g = f then (g, y) :: ds else (g, d) :: putD f y ds)
    by_cases e : g = f
    · rw [if_pos e, if_pos e]
      exact .cons rv t
    · rw [if_neg e, if_neg e]
      exact .cons r (RpF.put rv t)
theorem RpF.length {S : Sg0} {Hv : Hp} : ∀ {vs : List (Str × V)} {fs : List (Str × D)}, RpF S Hv vs fs → vs.length = fs.length
  | _, _, .nil => rfl
  | _, _, .cons _ t => by rw [List.length_cons, List.length_cons, RpF.length t]
theorem st_fld {f : Str} {value : Expr} {pos' : Pos} {E : EG} (c : Cls X.K C) (n : NoAttr X.K C f)
    (h : EvG X S value Γ μ fun y μ1 => EvG X S o Γ μ1 fun d μ2 => ∃ a fs μ3, d = .ref a ∧ Upd a (.ins C fs) (.ins C (putD f y fs)) μ2 μ3 ∧ fs.length < 1000 ∧ E.nx Γ μ3)
    (hs : swapsWith value (some (.Attribute o f pos')) pos.line X.env = pure false := by rfl) : StG X S (.Assign [.Attribute o f pos'] value pos) Γ μ E := by
  intro F N σ H r rs
  refine sx_of (ps_fld pe_ex pe_ex hs) (h.use r rs fun v H1 y μ1 r1 rs1 ry q1 => ?_)
  refine q1.use r1 rs1 fun w H2 d μ2 r2 rs2 rd ⟨a, fs, μ3, ed, u, hl, q⟩ => ?_
  subst ed
  cases rd
  obtain ⟨ob, e, rm⟩ := r2.find u.mem
  cases rm with
  | @ins _ dx _ fvs h' =>
  have r3 := (r2.weakF (r.ext.trans r1.ext)).put u (o := .ins C dx (putF f v fvs)) (.ins (h'.put (ry.ext r2.ext)))
  refine ⟨a, C, dx, fvs, rfl, e, c, n, by rw [h'.length]; exact hl, Γ, μ3, r3, ?_, q⟩
  rw [u.adr, vis_upd (List.mem_map_of_mem u.mem)]
  exact rs2
end
end GL
namespace GL
open PySem L2 PySem.Spec PyProof.Rows
section
variable {CX : CXT} {P : Program} {w : World} {K : PySem.W.Frag} {mg : Str → Option Value} {base : Heap} {k : Nat} {f : Addr} {N ps : List Str}
end
structure FnIt (P : Program) (w : World) (K : PySem.W.Frag) (mg : Str → Option Value) (base : Heap) (k : Nat) (f C : Addr) (fld : Str) : Prop where
  run : ∀ (A : Around) (outer : List Env) (s : Shared) (H : Hp) (a dx l : Addr) (fs : List (Str × V)) (zs : List V), Room k A → Env0 P w K mg base A outer s H → H a = some (.ins C dx fs) → fs.lookup fld = some (.ref l) → SqL K H l zs →
    codeAny (model P w) A (.call (.ref f) ⟨[.ref a], []⟩) (CR CX0 outer P w H s (fun v H' => ∃ it, v = .ref it ∧ s.heap.objs.size ≤ it ∧ H it = none ∧ H' = upd H it (ItO l it 0)) E0) s
section
variable {X : Cx} {S : Sg} {tg : Expr} {μ : Mem} {R : RI} {d : D} {k : Nat} {f C : Addr} {fld : Str}
end
end GL
namespace GL
open PySem L2 PySem.Spec PyProof.Rows
section
variable {X : Cx} {S : Sg} {CX : CXT} {k : Nat} {f C : Addr} {fd : FuncData} {ps : List Str} {sg : SpG} {Γ : Gm} {μ : Mem} {Q : QD} {d e : D}
structure MethG (X : Cx) (S : Sg) (CX : CXT) (k : Nat) (C f : Addr) (m : Str) (fd : FuncData) (ps : List Str) (sg : SpG) : Prop where
  mono : MonoG sg
  at_ : PySem.W.findIn X.K (.ref C) m = some (some (.ref f))
  fn : PySem.W.isFn X.K (.ref f) = true
  ok : FnOk X.prog X.w X.K X.mg X.base CX k f fd ps (spG S sg)
  hb : Binds X.K fd ps []
  hx : Passes CX X S.wx
end
def startG (N : List Str) (ds : List D) : Gm := ds.map some ++ List.replicate (N.length - ds.length) none
theorem start_rel {S : Sg0} {Hv : Hp} {vs : List V} {ds : List D} {N : List Str} (h : RpA S Hv vs ds) : RelS S Hv (L2.start N vs) (startG N ds) := by
  have h2 : ∀ n, RelS S Hv (List.replicate n none) (List.replicate n none) := fun n => by
    induction n with
    | zero => exact .nil
    | succ n ih => exact .cons (fun d hd => by cases hd) ih
  have h1 : ∀ {vs : List V} {ds : List D} {σ : L2.St} {Γ : Gm}, RpA S Hv vs ds → RelS S Hv σ Γ → RelS S Hv (vs.map some ++ σ) (ds.map some ++ Γ) := by
    intro vs
    induction vs with
    | nil => intro ds σ Γ h t; cases h; exact t
    | cons v vs ih =>
      intro ds σ Γ h t
      cases h with
      | @cons _ _ d ds hv ht => exact .cons (fun e he => by cases he; exact ⟨v, rfl, hv⟩) (ih ht t)
  unfold L2.start startG
  rw [h.length]
  exact h1 h (h2 _)
end GL
namespace GL
open PySem L2 PySem.Spec PyProof.Rows
theorem kit_same {K : PySem.W.Frag} {c : Value} : PySem.W.kitOne K c c = some true := by
  unfold PySem.W.kitOne
  rw [if_pos (beq_self_eq_true c)]
theorem kit_other {K : PySem.W.Frag} {t : Value} {C : Addr} {b : Bool} (h1 : PySem.W.isClsIn K C = true) (h2 : PySem.W.typeIn K (.ref C) = some (.type "type")) (h3 : PySem.W.subIn K t (.ref C) = some b) (h4 : (t == .ref C) = false) : PySem.W.kitOne K t (.ref C) = some b := by
  have h1' : (PySem.W.clsIn K C).isSome = true := h1
  unfold PySem.W.kitOne PySem.W.kitCls
  rw [h4, if_neg Bool.false_ne_true]
  simp only [h1', h2, beq_self_eq_true, Bool.and_self, if_true]
  exact h3
end GL
namespace GL
open PySem L2 PySem.Spec PyProof.Rows
section
variable {X : Cx} {S : Sg} {a b c e o : Expr} {es : List Expr} {sts : List Stmt} {Γ : Gm} {μ : Mem} {Q : QD} {x : Str} {pos p : Pos} {d : D} {E : EG} {tg iter : Expr} {body : List Stmt}
theorem nm (i : Nat) (k : Q d μ) (hN : X.N[i]? = some x := by rfl) (hv : Vis X.env.scope x := by first | exact Or.inl rfl | exact Or.inr (Or.inl rfl) | exact Or.inr (Or.inr rfl)) (hΓ : Γ[i]? = some (some d) := by rfl)
    (hd : (x == ("__debug__" : Str)) = false := by decide) (hcd : (x == ("__classdict__" : Str)) = false := by decide) : EvG X S (.Name x pos) Γ μ Q := ev_name hN hv hΓ k hd hcd
theorem asg (i : Nat) {pos' : Pos} (nd : X.N.Nodup) (h : EvG X S e Γ μ fun d μ1 => BlG X S sts (Γ.set i (some d)) μ1 E) (hi : X.N[i]? = some x := by rfl) (hx : Loc X.env.scope x := by first | exact Or.inl rfl | exact Or.inr rfl)
    (hs : swapsWith e (some (.Name x pos')) pos.line X.env = pure false := by rfl) (hf : X.fn x = true ∨ X.env.scope.names.lookup x = some .local := by first | exact .inl rfl | exact .inr rfl) : BlG X S (.Assign [.Name x pos'] e pos :: sts) Γ μ E := bl_cons (st_set nd hi hx h hs hf)
theorem ifb {orelse : List Stmt} (h : EvT X S c Γ μ fun t μ1 => (t = true → BlG X S body Γ μ1 { E with nx := fun Γ' μ' => BlG X S sts Γ' μ' E }) ∧ (t = false → BlG X S orelse Γ μ1 { E with nx := fun Γ' μ' => BlG X S sts Γ' μ' E })) : BlG X S (.If c body orelse pos :: sts) Γ μ E := bl_cons (st_if h)
theorem ret (h : EvG X S e Γ μ E.rt) : BlG X S (.Return (some e) pos :: sts) Γ μ E := bl_cons (st_ret h)
theorem nil (k : E.nx Γ μ) : BlG X S [] Γ μ E := bl_nil k
theorem tn (i : Nat) {vs : List Nat} {P : Gm → Mem → Prop} (nd : X.N.Nodup) (k : P (Γ.set i (some d)) μ) (hv : i ∈ vs := by decide) (hi : X.N[i]? = some x := by rfl) (hx : Loc X.env.scope x := by first | exact Or.inl rfl | exact Or.inr rfl)
    (hf : X.fn x = true ∨ X.env.scope.names.lookup x = some .local := by first | exact .inl rfl | exact .inr rfl) : TgG X S vs (.Name x pos) d Γ μ P := tg_name hv nd hi hx k hf
theorem forb (hp : PassesOwn (model X.prog X.w) X.A X.env X.xe)
    (hi : IterG X S tg iter Γ μ fun Km ds μ1 => ∃ I : Nat → Gm → Mem → Prop, I 0 Γ μ1 ∧ (∀ i Γ' μ', I i Γ' μ' → Km μ') ∧
      (∀ i d Γ' μ', ds[i]? = some d → I i Γ' μ' → TgG X S (List.range 64) tg d Γ' μ' fun Γ2 μ2 => BlG X S body Γ2 μ2 { nx := I (i + 1), ct := I (i + 1), bk := fun Γ' μ' => BlG X S sts Γ' μ' E, rt := E.rt }) ∧
      (∀ Γ' μ', I ds.length Γ' μ' → BlG X S sts Γ' μ' E))
    (hc : X.calm = true := by rfl) (hs : ∀ x, foldedSetIterable iter X.env x = pure x := by intro _; rfl) : BlG X S (.For tg iter body [] pos :: sts) Γ μ E := bl_cons (st_for hp hc hi hs)
theorem append_at {a : Addr} {l : List D} {μ' : Mem} {d : D} (hu : Upd a (.lst l) (.lst (l ++ [d])) μ μ') (hl : l.length < 16777216) (k : Q .non μ') :
    ∀ F N H x xs, RelM S F N H μ → Rp S (vis N H (adr μ)) x (.ref a) → RpA S (vis N H (adr μ)) xs [d] → rAppend x xs H (EndE S F N Q) := fun F N H x xs r rx rq => by
  cases rx
  obtain ⟨v, rfl, rv⟩ := rq.one
  obtain ⟨ob, e, rm⟩ := r.find hu.mem
  cases rm with
  | @lst _ ys hs => exact ⟨a, ys, v, rfl, rfl, e, by rw [hs.length, sizeLine_eq]; exact hl, _, μ', r.put hu (.lst (hs.append (.cons rv .nil))), .non, k⟩
def MtG (X : Cx) (S : Sg) (id : String) (d : D) (ds : List D) (μ : Mem) (Q : QD) : Prop :=
  ∀ F N H x xs, RelM S F N H μ → Rp S (vis N H (adr μ)) x d → RpA S (vis N H (adr μ)) xs ds → ∃ r, MtR X id r ∧ ∃ Q0 : VK, r x xs H Q0 ∧ ∀ v H', Q0 v H' → EndE S F N Q v H'
def MTt (X : Cx) (id : String) : V → List V → Hp → VK → Prop := fun x xs H Q => ∃ r, MtR X id r ∧ ∃ Q0 : VK, r x xs H Q0 ∧ ∀ v H', Q0 v H' → Q v H'
theorem mtr_self {id : String} : MtR X id (MTt X id) := by
  intro pins s σ H x xs v us Q I rx rv h
  obtain ⟨r, hr, Q0, q, m⟩ := h
  exact thn (hr pins s σ H x xs v us Q0 I rx rv q) fun _ _ ⟨z, H', I', rz, q⟩ => ⟨z, H', I', rz, m _ _ q⟩
def tyD (μ : Mem) (T : String) (d : D) : Prop := match d with
  | .str _ => T = "str"
  | .lst _ => T = "list"
  | .ref a => T = "list" ∧ ∃ l, (a, M.lst l) ∈ μ
  | _ => False
theorem tyD_at {F N H : Hp} {T : String} {v : V} (h : tyD μ T d) (r : RelM S F N H μ) (rv : Rp S (vis N H (adr μ)) v d) : tyV X.K T v H := by
  cases rv with
  | str x => exact h
  | lst ha hs => exact .inl ⟨h, _, SqL.of (vis_le _ _ ha)⟩
  | ref a =>
    obtain ⟨h1, l, hm⟩ := h
    obtain ⟨o, e, rm⟩ := r.find hm
    cases rm with
    | lst hs => exact .inl ⟨h1, _, SqL.of e⟩
  | _ => exact h.elim
theorem ev_bm {name : Str} {apos : Pos} {T id : String} (pa : PlainAttrs T) (slot : Slot T name id) (hty : typeOf (.builtin id) = pure (.type "method_descriptor"))
    (h : EvG X S o Γ μ fun d μ1 => tyD μ1 T d ∧ EvA X S (e :: es) Γ μ1 fun ds μ2 => MtG X S id d ds μ2 Q)
    (hbase : attributeBase o name X.env (eval o X.env) = eval o X.env := by rfl)
    (hfew : ((backTo pos (starEach (e :: es) X.env)).all (fun x => !x.1) && (backToKw pos (keywordEach [] X.env)).all (fun x => x.1.isSome)
      && decide ((e :: es).length + ([] : List Keyword).length + (if ([] : List Keyword).isEmpty then 0 else 1) < 30)) = true := by rfl)
    (hline : (apos.endLine == pos.line) = true := by rfl) (hs : starEach (e :: es) X.env = (false, eval e X.env) :: starEach es X.env := by rfl) (hplain : (backTo pos (starEach es X.env)).any (·.1) = false := by rfl) :
    EvG X S (.Call (.Attribute o name apos) (e :: es) [] pos) Γ μ Q := by
  intro F N σ H r rs
  refine ex_of (pe_bm pa slot hty mtr_self pe_ex pa_ex hbase hfew hline hs hplain) (h.use r rs fun v H1 d μ1 r1 rs1 rd ⟨q1, q2⟩ => ⟨tyD_at q1 r1 rd, ?_⟩)
  exact q2.use r1 rs1 fun vs H2 ds μ2 r2 rs2 rds q => q F N H2 v vs (r2.weakF (r.ext.trans r1.ext)) (rd.ext r2.ext) rds
theorem ev_app {apos : Pos} (h : EvG X S o Γ μ fun d μ1 => ∃ a, d = .ref a ∧ (∃ l, (a, M.lst l) ∈ μ1) ∧ EvA X S [e] Γ μ1 fun ds μ2 => ∃ y l μ3, ds = [y] ∧ Upd a (.lst l) (.lst (l ++ [y])) μ2 μ3 ∧ l.length < 16777216 ∧ Q .non μ3)
    (hbase : attributeBase o "append" X.env (eval o X.env) = eval o X.env := by rfl)
    (hfew : ((backTo pos (starEach [e] X.env)).all (fun x => !x.1) && (backToKw pos (keywordEach [] X.env)).all (fun x => x.1.isSome)
      && decide ([e].length + ([] : List Keyword).length + (if ([] : List Keyword).isEmpty then 0 else 1) < 30)) = true := by rfl)
    (hline : (apos.endLine == pos.line) = true := by rfl) (hs : starEach [e] X.env = (false, eval e X.env) :: starEach [] X.env := by rfl) (hplain : (backTo pos (starEach [] X.env)).any (·.1) = false := by rfl) :
    EvG X S (.Call (.Attribute o "append" apos) [e] [] pos) Γ μ Q := by
  refine ev_bm PySem.F.plainAttrs_list PySem.F.slot_list_append PySem.F.type_list_append (h.mono fun d μ1 ⟨a, ed, hl, q⟩ => ?_) hbase hfew hline hs hplain
  subst ed
  refine ⟨⟨rfl, hl⟩, fun F N σ H r rs => (q F N σ H r rs).mono fun vs H' ⟨ds, μ2, r2, rds, y, l, μ3, eds, u, hz, k⟩ => ⟨ds, μ2, r2, rds, ?_⟩⟩
  subst eds
  intro F N H x xs r rx rq
  exact ⟨_, mt_append, _, append_at u hz k F N H x xs r rx rq, fun _ _ q => q⟩
end
theorem fund_ok {P : Program} {w : World} {K : PySem.W.Frag} {mg : Str → Option Value} {base : Heap} {S : Sg0} {k : Nat} {f : Addr} {fd : FuncData} {N ps : List Str} {sg : SpG} {x qual : Str} {params : Arguments} {body : List Stmt} {scope : Scope} {dvs : List V} {kws : List (Str × V)}
    (F : FunD K x qual params body scope dvs kws f fd) (sc : FnScope N ps scope) (len : ∀ ds μ Q Ex, sg ds μ Q Ex → ds.length = ps.length)
    (hbody : ∀ (cdv : Value) (A : Around) (outer : List Env) (s : Shared) (H : Hp) (E : XK) (ds : List D) (μ : Mem) (Q : QD) (Ex : QE), Room k (A.deeper (envOfC qual scope s.heap.objs.size f cdv)) → sg ds μ Q Ex →
      BlG (cxOf CX0 P w K mg base N qual scope f cdv A outer s H E).nox S.nx body (startG N ds) μ { nx := fun _ μ' => Q .non μ', rt := Q }) :
    FnOk P w K mg base CX0 (k + 1) f fd ps (spG S sg) := by
  refine F.ok sc (fun vs H Q E h => ?_) (fun cdv A outer s H vs Q E hr h => ?_)
  · obtain ⟨_, _, ds, μ, _, rv, h⟩ := h
    rw [rv.length]
    exact len ds μ _ _ h
  · obtain ⟨F0, N0, ds, μ, r, rv, h⟩ := h
    refine ⟨_, PSs.nox pss_ex, ⟨fun pins s' I => ?_⟩⟩
    refine thn (hbody cdv A outer s H E ds μ _ _ hr h F0 N0 (L2.start N vs) H ⟨r, nx_iv⟩ (start_rel rv) pins s' I) fun fl s2 q => ?_
    cases fl with
    | next =>
      obtain ⟨σ', H', I', Γ', μ', r', rs', q⟩ := q
      exact ⟨σ', H', I', q .non H' r'.toRelM0 .non⟩
    | ret u =>
      obtain ⟨v, σ', H', I', rv', d', μ', r', rd, q⟩ := q
      exact ⟨v, σ', H', I', rv', q v H' r'.toRelM0 rd⟩
    | brk => obtain ⟨σ', H', I', Γ', μ', r', rs', q⟩ := q; exact q.elim
    | cont => obtain ⟨σ', H', I', Γ', μ', r', rs', q⟩ := q; exact q.elim
end GL
namespace GL
open PySem L2
end GL
namespace GL
open PySem L2
theorem hu_room {A : Around} {k : Nat} (hr : Room k A) : A.units + 65 < cLine := by have := hr.un; omega
end GL
namespace GL
theorem few {n : Nat} (h : Nat.ble n 16777216 = true := by rfl) : n ≤ 16777216 := Nat.le_of_ble_eq_true h
end GL
namespace GL
open PySem L2
def pr (R : List D → D → Prop) : SpG := fun ds μ Q _ => ∃ d, R ds d ∧ Q d μ
end GL
namespace GL
open PySem L2
theorem b_len : bootBuiltins "len" = some (.builtin "len") := by decide +kernel
theorem b_isinstance : bootBuiltins "isinstance" = some (.builtin "isinstance") := by decide +kernel
theorem b_list : bootBuiltins "list" = some (.type "list") := by decide +kernel
theorem b_int : bootBuiltins "int" = some (.type "int") := by decide +kernel
theorem b_bool : bootBuiltins "bool" = some (.type "bool") := by decide +kernel
end GL
namespace GL
open PySem L2
section
variable {X : Cx} {S : Sg} {Γ : Gm} {μ : Mem} {Q : QD} {x f : Str} {pos p : Pos} {d y : D} {C : Addr}
theorem fld (i : Nat) (c : Cls X.K C) (n : NoAttr X.K C f) (h : FldG S μ d C f y) (k : Q y μ) (hN : X.N[i]? = some x := by rfl) (hv : Vis X.env.scope x := by first | exact Or.inl rfl | exact Or.inr (Or.inl rfl) | exact Or.inr (Or.inr rfl)) (hΓ : Γ[i]? = some (some d) := by rfl)
    (hd : (x == ("__debug__" : Str)) = false := by decide) (hcd : (x == ("__classdict__" : Str)) = false := by decide) (hb : attributeBase (.Name x p) f X.env (eval (.Name x p) X.env) = eval (.Name x p) X.env := by rfl) : EvG X S (.Attribute (.Name x p) f pos) Γ μ Q :=
  ev_fld c n (ev_name hN hv hΓ ⟨y, h, k⟩ hd hcd) hb
theorem ea_few {L : List D → Nat} {P' : List D → Mem → Prop} (k : P' [] μ) (h : L [] ≤ 16777216 := by exact few) : EvA X S [] Γ μ fun ds μ1 => L ds ≤ 16777216 ∧ P' ds μ1 := ea_nil ⟨h, k⟩
end
end GL
namespace GL
open PySem L2 PySem.Spec PyProof.Rows
abbrev OkS (x : Str) : Prop := PyData.strOk x = true
abbrev Sp2 := Str × Str
def OkP (p : Sp2) : Prop := OkS p.1 ∧ OkS p.2
def spD (p : Sp2) : D := .tup [.str p.1, .str p.2]
theorem eqv_str (x y : Str) : D.eqv (.str x) (.str y) = decide (x = y) := by
  simp only [D.eqv, D.py, PyData.eqv]
  exact Bool.beq_eq_decide_eq x y
theorem eqv_list {α : Type} [DecidableEq α] (f : α → D) (h : ∀ a b, D.eqv (f a) (f b) = decide (a = b)) : ∀ xs ys : List α, D.eqv (.lst (xs.map f)) (.lst (ys.map f)) = decide (xs = ys)
  | [], [] => by simp [D.eqv, D.py, D.pyA, PyData.eqv, PyData.eqvAll]
  | [], _ :: _ => by simp [D.eqv, D.py, D.pyA, PyData.eqv, PyData.eqvAll]
  | _ :: _, [] => by simp [D.eqv, D.py, D.pyA, PyData.eqv, PyData.eqvAll]
  | x :: xs, y :: ys => by
    have ih := eqv_list f h xs ys
    have h1 := h x y
    simp only [D.eqv, D.py, D.pyA, PyData.eqv, PyData.eqvAll, List.map_cons] at ih h1 ⊢
    rw [ih, h1, Bool.eq_iff_iff]
    simp
def once (ps : List Sp2) : List Sp2 := ps.foldl (fun acc p => if p ∈ acc then acc else acc ++ [p]) []
theorem take_snoc {α : Type} {l : List α} {i : Nat} {x : α} (h : l[i]? = some x) : l.take (i + 1) = l.take i ++ [x] := by
  rw [List.take_succ, h]
  rfl
theorem map_at {α : Type} {f : α → D} {l : List α} {i : Nat} {d : D} (h : (l.map f)[i]? = some d) : ∃ x, l[i]? = some x ∧ d = f x := by
  rw [List.getElem?_map] at h
  cases e : l[i]? with
  | none => rw [e] at h; cases h
  | some x => rw [e] at h; exact ⟨x, rfl, (Option.some.inj h).symm⟩
end GL
namespace GL
open PySem L2 PySem.Spec PyProof.Rows
section
variable {S : Sg} {F N H : Hp} {μ μ' : Mem}
theorem vis_perm (p : μ.Perm μ') : vis N H (adr μ') = vis N H (adr μ) := by
  funext b
  have h : b ∈ adr μ' ↔ b ∈ adr μ := ((p.map (·.1)).mem_iff).symm
  unfold vis
  by_cases hb : (N b).isSome = true ∨ b ∈ adr μ
  · rw [if_pos hb, if_pos (hb.imp id h.mpr)]
  · rw [if_neg hb, if_neg fun z => hb (z.imp id h.mp)]
theorem RelM.perm (r : RelM S F N H μ) (p : μ.Perm μ') : RelM S F N H μ' := by
  have ev : vis N H (adr μ') = vis N H (adr μ) := vis_perm p
  refine ⟨⟨r.hid, fun a ha => r.dis a (((p.map (·.1)).mem_iff).mpr ha), by rw [ev]; exact r.ext, (p.map (·.1)).nodup_iff.mp r.nd, fun q hq => ?_, r.tup⟩, r.iv⟩
  rw [ev]
  exact r.mem q (p.mem_iff.mpr hq)
end
section
variable {X : Cx} {S : Sg} {a b c e o : Expr} {es : List Expr} {sts : List Stmt} {Γ : Gm} {μ μ' : Mem} {Q : QD} {x : Str} {pos p : Pos} {d : D} {E : EG}
theorem ev_lstE (h : EvA X S es Γ μ fun ds μ1 => ds.length ≤ 16777216 ∧ ∀ p, p ∉ adr μ1 → Q (.ref p) (μ1 ++ [(p, .lst ds)])) : EvG X S (.List es pos) Γ μ Q := by
  intro F N σ H r rs
  refine ex_of (pe_lst pa_ex) (h.use r rs fun vs H1 ds μ1 r1 rs1 rd q => ?_)
  refine ⟨by rw [rd.length, sizeLine_eq]; exact q.1, fun p hp => ?_⟩
  have pm : ((p, M.lst ds) :: μ1).Perm (μ1 ++ [(p, .lst ds)]) := (List.perm_append_singleton _ _).symm
  have r2 := (r1.weakF r.ext).allocM (m := .lst ds) hp (.lst rd)
  exact ⟨_, _, r2.perm pm, .ref p, q.2 p (adr_new r1.toRelM0 hp)⟩
theorem tg_sub {i : Expr} {vs : List Nat} {P : Gm → Mem → Prop} (h : EvG X S o Γ μ fun od μ1 => EvG X S i Γ μ1 fun id μ2 => ∃ a l k j μ3, od = .ref a ∧ id = .int k ∧ ixN l.length k = some j ∧ Upd a (.lst l) (.lst (l.set j d)) μ2 μ3 ∧ P Γ μ3)
    (ha : ∀ v, assign (.Subscript o i pos) X.env v = (do
      let ov ← holding [v] (eval o X.env)
      let iv ← holding [v, ov] (eval i X.env)
      standAt pos
      holding [v, ov, iv] (setItem ov iv v)
      release [v, ov, iv] []) := by intro _; rfl) : TgG X S vs (.Subscript o i pos) d Γ μ P := fun F N σ H v r rs rv => by
  refine gx_of (pg_sub pe_ex pe_ex set_list ha) ?_
  refine h.use r rs fun ov H1 od μ1 r1 rs1 ro q1 => ?_
  refine q1.use r1 rs1 fun iv H2 id μ2 r2 rs2 ri ⟨a, l, k, j, μ3, e1, e2, hj, u, q⟩ => ?_
  subst e1 e2
  cases ro
  cases ri
  obtain ⟨ob, e, rm⟩ := r2.find u.mem
  cases rm with
  | @lst _ xs hs =>
  refine ⟨a, xs, k, j, rfl, rfl, e, by rw [hs.length]; exact hj, rfl, Γ, μ3, (r2.weakF (r.ext.trans r1.ext)).put u (.lst (hs.set j (rv.ext (r1.ext.trans r2.ext)))), ?_, q⟩
  rw [u.adr, vis_upd (List.mem_map_of_mem u.mem)]
  exact rs2
theorem setb {tg : Expr} (h : EvG X S e Γ μ fun d μ1 => TgG X S (List.range 64) tg d Γ μ1 fun Γ' μ' => BlG X S sts Γ' μ' E) (hs : swapsWithSole [tg] e pos.line X.env = pure false := by rfl) (hw : swappedStores [tg] e X.env = pure none := by rfl)
    (h1 : (assignEach [tg] X.env).map (·.2) = [assign tg X.env] := by rfl) : BlG X S (.Assign [tg] e pos :: sts) Γ μ E := bl_cons (st_asg h hs hw h1)
theorem exb (h : EvG X S e Γ μ fun _ μ' => BlG X S sts Γ μ' E) (hs : swapsWith e none pos.line X.env = pure false := by rfl) : BlG X S (.Expr e pos :: sts) Γ μ E := bl_cons (st_expr h hs)
theorem og_fdivW {i j : Int} (c : CDivW i j) (k : Q (.int (i / j)) μ) : OpG X S (binaryOp .FloorDiv) (.int i) (.int j) μ Q := fun F N H u v r ru rv => by cases ru; cases rv; exact op_of op_fdivW ⟨i, j, rfl, rfl, c, _, μ, r, .int _, k⟩
theorem mt_join {z : Str} {xs : List Str} (hd : d = .lst (xs.map D.str)) (hz : (xs.map (·.length)).sum + xs.length * z.length ≤ 16777216) (k : Q (.str (Txt.join z xs)) μ) : MtG X S "str.join" (.str z) [d] μ Q := by
  intro F N H v vs r rv rq
  subst hd
  cases rv
  obtain ⟨w, rfl, rw'⟩ := rq.one
  cases rw' with
  | @lst a ys _ ha hs =>
  have hy : ∀ {xs : List Str} {ys : List V}, RpA S (vis N H (adr μ)) ys (xs.map D.str) → ys = xs.map V.str := by
    intro xs
    induction xs with
    | nil => intro ys h; cases h; rfl
    | cons x xs ih =>
      intro ys h
      cases h with
      | cons h t =>
      cases h
      rw [ih t]
      rfl
  have e := hy hs
  subst e
  exact ⟨_, L2.mt_join, _, ⟨z, a, xs, rfl, rfl, .inl (SqL.of (vis_le _ _ ha)), hz, _, μ, r, .str _, k⟩, fun _ _ q => q⟩
end
def PoolOk (l : List D) : Prop := (∃ n : Int, 0 ≤ n ∧ l = [.int n]) ∨
  ∃ (x k : Int) (cs : List Int), l = [.int x, .int k, .lst (cs.map D.int)] ∧ (0 ≤ x ∧ x < 65537) ∧ 0 ≤ k ∧ cs ≠ [] ∧ cs.length ≤ 63 ∧ ∀ c ∈ cs, 0 ≤ c ∧ c < 65537
def sg_take : SpG := fun ds μ Q _ => ∃ a l n, ds = [.ref a, .int n] ∧ μ = [(a, .lst l)] ∧ PoolOk l ∧ (0 < n ∧ n < 2 ^ 200) ∧ ∀ r l', 0 ≤ r → r < n → PoolOk l' → Q (.int r) [(a, .lst l')]
theorem take_mono : MonoG sg_take := fun _ _ _ _ _ _ ⟨a, l, n, h1, h2, h3, h4, q⟩ m _ => ⟨a, l, n, h1, h2, h3, h4, fun r l' a1 a2 a3 => m _ _ (q r l' a1 a2 a3)⟩
theorem ask_take {S : Sg} {a : Addr} {l : List D} {n : Int} {μ : Mem} {Q : QD} (h : PoolOk l) (hn : 0 < n ∧ n < 2 ^ 200) (q : ∀ r l', 0 ≤ r → r < n → PoolOk l' → Q (.int r) ((a, .lst l') :: μ)) : AskG S sg_take [.ref a, .int n] ((a, .lst l) :: μ) Q :=
  ⟨[(a, .lst l)], μ, .l (Split.none μ), a, l, n, rfl, rfl, h, hn, q⟩
theorem ixN0 {n : Nat} (h : 0 < n) : ixN n 0 = some 0 := by
  unfold ixN
  rw [if_pos (by decide), if_pos (by omega)]
  rfl
theorem atI_mod {cs : List Int} {k : Int} (h : cs ≠ []) (hk : 0 ≤ k) : ∃ c, c ∈ cs ∧ atI (cs.map D.int) (k % (cs.length : Int)) = some (.int c) := by
  have hl : 0 < cs.length := List.length_pos_iff.mpr h
  have h1 : 0 ≤ k % (cs.length : Int) := Int.emod_nonneg _ (by omega)
  have h2 : k % (cs.length : Int) < cs.length := Int.emod_lt_of_pos _ (by omega)
  obtain ⟨j, hj⟩ := Int.eq_ofNat_of_zero_le h1
  rw [hj] at h2 ⊢
  have h3 : j < cs.length := by omega
  refine ⟨cs[j], List.getElem_mem h3, atI_nat ?_⟩
  rw [List.getElem?_map, List.getElem?_eq_getElem h3]
  rfl
end GL
namespace GL
open PySem L2 PySem.Spec PyProof.Rows TL
abbrev cs (z : Str) : List Nat := z.cps.toList
theorem cs_len (z : Str) : z.length = (cs z).length := by
  show z.cps.size = z.cps.toList.length
  simp
theorem cs_app (x y : Str) : cs (x ++ y) = cs x ++ cs y := by
  show (x.cps ++ y.cps).toList = _
  simp
theorem cs_one (c : Nat) : cs ⟨#[c]⟩ = [c] := rfl
theorem OkS_of {z : Str} (h : ∀ c ∈ cs z, c < 1114112) : OkS z := by
  show z.cps.all (· < 0x110000) = true
  rw [← Array.all_toList]
  exact List.all_eq_true.mpr fun c hc => decide_eq_true (h c hc)
def baseC : List Nat := cs ("mnopqrstuvwxyz0123456789" : Str)
def markC : List Nat := cs ("afkdibglejch" : Str)
theorem base_len : baseC.length = 24 := by decide +kernel
theorem mark_len : markC.length = 12 := by decide +kernel
theorem base_lt : ∀ c ∈ baseC, c < 1114112 := by decide +kernel
theorem mark_lt : ∀ c ∈ markC, c < 1114112 := by decide +kernel
theorem base_mark : ∀ c ∈ baseC, c ∉ markC := by decide +kernel
theorem mark_nd : markC.Nodup := by decide +kernel
def BaseOk (z : Str) : Prop := (cs z).length ≤ 11 ∧ ∀ c ∈ cs z, c ∈ baseC
def NameOk (k : Nat) (z : Str) : Prop := ∃ x y c, cs z = x ++ c :: y ∧ markC[k]? = some c ∧ (∀ c ∈ x ++ y, c ∈ baseC) ∧ (x ++ y).length ≤ 11
theorem NameOk.ok {k : Nat} {z : Str} (h : NameOk k z) : OkS z := by
  obtain ⟨x, y, c, e, hc, hb, _⟩ := h
  refine OkS_of fun d hd => ?_
  rw [e] at hd
  rcases List.mem_append.mp hd with hd | hd
  · exact base_lt d (hb d (List.mem_append_left _ hd))
  · rcases List.mem_cons.mp hd with rfl | hd
    · exact mark_lt d (List.mem_of_getElem? hc)
    · exact base_lt d (hb d (List.mem_append_right _ hd))
theorem NameOk.len {k : Nat} {z : Str} (h : NameOk k z) : z.length ≤ 12 := by
  obtain ⟨x, y, c, e, hc, hb, hl⟩ := h
  rw [cs_len, e]
  simp only [List.length_append, List.length_cons] at hl ⊢
  omega
theorem NameOk.inj {i j : Nat} {z : Str} (h : NameOk i z) (h' : NameOk j z) : i = j := by
  obtain ⟨x, y, c, e, hc, hb, _⟩ := h
  obtain ⟨x', y', c', e', hc', hb', _⟩ := h'
  have hm : c ∈ cs z := by rw [e]; simp
  rw [e'] at hm
  have hcm : c ∈ markC := List.mem_of_getElem? hc
  have : c = c' := by
    rcases List.mem_append.mp hm with hd | hd
    · exact absurd hcm (base_mark c (hb' c (List.mem_append_left _ hd)))
    · rcases List.mem_cons.mp hd with rfl | hd
      · rfl
      · exact absurd hcm (base_mark c (hb' c (List.mem_append_right _ hd)))
  subst this
  obtain ⟨h1, e1⟩ := List.getElem?_eq_some_iff.mp hc
  obtain ⟨h2, e2⟩ := List.getElem?_eq_some_iff.mp hc'
  exact (List.getElem_inj mark_nd).mp (e1.trans e2.symm)
theorem joinL_nil : ∀ l : List (List Nat), joinL [] l = l.flatten
  | [] => rfl
  | [x] => by simp [joinL]
  | x :: y :: l => by
    have ih := joinL_nil (y :: l)
    show x ++ ([] ++ joinL [] (y :: l)) = _
    rw [ih]
    simp
theorem flat_one : ∀ xs : List Nat, (xs.map fun c => tl (⟨#[c]⟩ : Str)).flatten = xs
  | [] => rfl
  | x :: xs => by
    show [x] ++ (xs.map fun c => tl (⟨#[c]⟩ : Str)).flatten = _
    rw [flat_one xs]
    rfl
theorem join_cs (xs : List Nat) : cs (Txt.join (Str.ofString "") (xs.map fun c => (⟨#[c]⟩ : Str))) = xs := by
  rw [join_eq]
  have h := tl_join (Str.ofString "") (xs.map fun c => (⟨#[c]⟩ : Str))
  have e0 : tl (Str.ofString "") = [] := by decide +kernel
  rw [e0, joinL_nil, List.map_map] at h
  exact h.trans (flat_one xs)
theorem cutS_tl {z : Str} {n : Nat} : cs (cutS z none (some (n : Int))) = (cs z).take n := by
  show (((z.cps.toList.drop (HT.sIx z.length 0 none)).take (HT.sIx z.length z.length (some (n : Int)) - HT.sIx z.length 0 none)).toArray).toList = _
  rw [HT.sIx_none, HT.sIx_nat, List.drop_zero, Nat.sub_zero]
  show (cs z).take (min n z.length) = _
  rw [cs_len]
  by_cases h : n ≤ (cs z).length
  · rw [Nat.min_eq_left h]
  · rw [Nat.min_eq_right (by omega), List.take_of_length_le (Nat.le_refl _), List.take_of_length_le (by omega)]
theorem cutS_hd {z : Str} {n : Nat} : cs (cutS z (some (n : Int)) none) = (cs z).drop n := by
  show (((z.cps.toList.drop (HT.sIx z.length 0 (some (n : Int)))).take (HT.sIx z.length z.length none - HT.sIx z.length 0 (some (n : Int)))).toArray).toList = _
  rw [HT.sIx_none, HT.sIx_nat]
  show ((cs z).drop (min n z.length)).take (z.length - min n z.length) = _
  rw [cs_len]
  by_cases h : n ≤ (cs z).length
  · rw [Nat.min_eq_left h, List.take_of_length_le (by rw [List.length_drop]; exact Nat.le_refl _)]
  · rw [Nat.min_eq_right (by omega), List.drop_of_length_le (Nat.le_refl _), List.drop_of_length_le (by omega)]
    simp
end GL
namespace GL
open PySem L2 PySem.Spec PyProof.Rows
def onto (acc ps : List Sp2) : List Sp2 := ps.foldl (fun acc p => if p ∈ acc then acc else acc ++ [p]) acc
end GL
namespace GL
open PySem L2 PySem.Spec PyProof.Rows
theorem StG.mono {X : Cx} {S : Sg} {st : Stmt} {Γ : Gm} {μ : Mem} {E : EG} {R R' : Gm → Mem → Prop} (h : StG X S st Γ μ { E with nx := R }) (k : ∀ Γ' μ', R Γ' μ' → R' Γ' μ') : StG X S st Γ μ { E with nx := R' } :=
  fun F N σ H r rs => (h F N σ H r rs).mono (fun _ _ ⟨Γ', μ', r, rs, q⟩ => ⟨Γ', μ', r, rs, k _ _ q⟩) (fun _ _ h => h) (fun _ _ h => h) (fun _ _ h => h)
theorem seqP {X : Cx} {S : Sg} {st : Stmt} {sts : List Stmt} {Γ : Gm} {μ : Mem} {E : EG} (R : Gm → Mem → Prop) (h : StG X S st Γ μ { E with nx := R }) (k : ∀ Γ' μ', R Γ' μ' → BlG X S sts Γ' μ' E) : BlG X S (st :: sts) Γ μ E := bl_cons (h.mono k)
end GL
namespace GL
open PySem L2 PySem.Spec PyProof.Rows
structure FnScopeS (N P : List Str) (sc : Scope) : Prop where
  kind : sc.kind = .function
  co : sc.isCoroutine = false
  gen : sc.isGenerator = false
  nd : N.Nodup
  pre : N.take P.length = P
  par : ∀ x ∈ P, sc.names.lookup x = some .local
  nocell : ∀ y ∈ sc.names, y.2 ≠ .cell
  free : ∀ y, sc.names.lookup y = some .free → y = "__class__"
  sup : sc.names.lookup ("super" : Str) = some .globalImplicit
  cls : sc.names.lookup ("__class__" : Str) = some .free
abbrev envS (qual : Str) (scope : Scope) (L f cda cc : Addr) : Env := PySem.W.envX qual scope L f (.ref cda) [("__class__", cc)]
def cxSc (cm : Bool) (pn : List (Addr × Obj)) (P : Program) (w : World) (K : PySem.W.Frag) (mg : Str → Option Value) (base : Heap) (N : List Str) (qual : Str) (scope : Scope) (f cda cc : Addr) (A : Around) (outer : List Env) (s : Shared) (H : Hp) : Cx where
  prog := P
  w := w
  K := K
  mg := mg
  base := base
  A := A.deeper (envS qual scope s.heap.objs.size f cda cc)
  N := N
  s_0 := s
  H_0 := H
  env := envS qual scope s.heap.objs.size f cda cc
  outer := outer
  stack := envS qual scope s.heap.objs.size f cda cc :: outer
  ex := []
  calm := cm
  fn := fun _ => false
  pn := pn
  xe := fun _ _ => False
abbrev cxS := cxSc true []
theorem look_rev : ∀ {ps : List Str} {us : List Value} {i : Nat} {x : Str} {u : Value}, ps.Nodup → ps[i]? = some x → us[i]? = some u → (ps.zip us).reverse.lookup x = some u
  | [], _, _, _, _, _, h, _ => by simp at h
  | _ :: _, [], _, _, _, _, _, h => by simp at h
  | p :: ps, v :: us, 0, x, u, nd, h1, h2 => by
    simp at h1 h2
    subst h1 h2
    have hn : (ps.zip us).reverse.lookup p = none := by
      rw [List.lookup_eq_none_iff]
      intro q hq
      have : q.1 ∈ ps := (List.of_mem_zip (List.mem_reverse.mp hq)).1
      exact bne_iff_ne.mpr fun e => (List.nodup_cons.mp nd).1 (e ▸ this)
    rw [List.zip_cons_cons, List.reverse_cons, List.lookup_append, hn]
    simp [List.lookup]
  | p :: ps, v :: us, i + 1, x, u, nd, h1, h2 => by
    have ih := look_rev (i := i) (List.nodup_cons.mp nd).2 (by simpa using h1) (by simpa using h2)
    rw [List.zip_cons_cons, List.reverse_cons, List.lookup_append, ih]
    rfl
structure FunS (P : Program) (K : PySem.W.Frag) (x qual : Str) (params : Arguments) (body : List Stmt) (scope : Scope) (f : Addr) (fd : FuncData) (C cda cc : Addr) : Prop where
  ex : ∃ (oc : Value) (od : Option Addr) (kV doc pm : Value) (an : Option Addr) (ct : Value) (osl : Array (Option Value)),
    fd = PySem.W.ksFn x qual params body scope .none kV doc pm an (.ref cda) ct cc ∧ K.lookup f = some ⟨oc, od, .func fd, osl⟩ ∧ PySem.W.codeIn K (.ref cda) qual = true
  code : ∃ (ccl : Value) (cdd : Option Addr) (vs : Array Value) (ccs : Array (Option Value)) (file : Str) (tf : Tok), K.lookup cda = some ⟨ccl, cdd, .fields vs, ccs⟩ ∧ vs[2]? = some (.str file tf) ∧ ((P.main.file : Str) == file) = true
  cell : ∃ (cl : Value) (cld : Option Addr) (csl : Array (Option Value)), K.lookup cc = some ⟨cl, cld, .cell (some (.ref C)), csl⟩
  top : (P.main.scope.names.lookup ("super" : Str)).isSome = false
section
variable {P : Program} {w : World} {K : PySem.W.Frag} {mg : Str → Option Value} {base : Heap} {N ps : List Str} {x qual : Str} {params : Arguments} {body : List Stmt} {scope : Scope} {f C cda cc : Addr} {fd : FuncData} {A : Around} {outer : List Env} {s : Shared} {H : Hp}
theorem free_only {l : List (Str × NameKind)} (h : ∀ y ∈ l, y.2 = .free → y.1 = "__class__") : ∀ y, l.lookup y = some .free → y = "__class__" := fun y e => h (y, .free) (PySem.mem_of_lookup e) rfl
theorem FunS.bindsS (F : FunS P K x qual params body scope f fd C cda cc)
    (h : ∀ (kV doc pm : Value) (an : Option Addr) (cdv ct : Value) (us : List Value), us.length = ps.length → bindArgs (PySem.W.ksFn x qual params body scope .none kV doc pm an cdv ct cc) ⟨us, []⟩ = pure (ps.zip us)) : Binds K fd ps [] := by
  obtain ⟨oc, od, kV, doc, pm, an, ct, osl, rfl, _⟩ := F.ex
  exact .all (h kV doc pm an (.ref cda) ct)
theorem FunS.cellAt (F : FunS P K x qual params body scope f fd C cda cc) {h : Heap} (k : K.In h) : h.IsCell cc (some (.ref C)) := by
  obtain ⟨cl, cld, csl, e⟩ := F.cell
  exact ⟨_, k _ _ e, rfl⟩
theorem inv_startS (F : FunS P K x qual params body scope f fd C cda cc) (S : FnScopeS N ps scope) {cm : Bool} {pn : List (Addr × Obj)} (hd : cm = true → A.handled = none) (hpn : ∀ p ∈ pn, L2H.PinOk outer H s p) (e0 : Env0 P w K mg base A outer s H) {us : List Value} {vs : List V} (hl : vs.length = ps.length) (r : Vals vs us) {h1 : Heap} {tk : Nat}
    (hns : h1.Ns s.heap.objs.size (fun y => (ps.zip us).reverse.lookup y)) (hk : ∀ b o, s.heap.get? b = some o → h1.get? b = some o) :
    Inv (cxSc cm pn P w K mg base N qual scope f cda cc A outer s H) [] (L2.start N vs) H { s with heap := h1, toks := tk } := by
  have hpl : ps.length ≤ N.length := by have := congrArg List.length S.pre; rw [List.length_take] at this; omega
  have noA : ∀ b : Addr, b ∉ (cxSc cm pn P w K mg base N qual scope f cda cc A outer s H).ex := fun b z => absurd (show b ∈ ([] : List Addr) from z) (by simp)
  have look : ∀ {y : Str} {c : Addr}, (cxSc cm pn P w K mg base N qual scope f cda cc A outer s H).env.cells.lookup y = some c → y = "__class__" ∧ c = cc := fun {y c} e => by
    have e : List.lookup y [(("__class__" : Str), cc)] = some c := e
    by_cases hy : y = "__class__"
    · subst hy
      simp [List.lookup] at e
      exact ⟨rfl, e.symm⟩
    · have hb : (y == ("__class__" : Str)) = false := beq_eq_false_iff_ne.mpr hy
      simp [List.lookup, hb] at e
  have kin : K.In s.heap := e0.mod.kin.keeps fun b o e => (e0.bs b o e).1
  have ccell : base.get? cc ≠ none ∧ H cc = none := by
    obtain ⟨cl, cld, csl, e⟩ := F.cell
    have hb := e0.mod.kin _ _ e
    exact ⟨by rw [hb]; simp, (e0.bs _ _ hb).2⟩
  have cab : cc < s.heap.objs.size := (F.cellAt kin).lt
  refine ⟨⟨e0.mod, S.kind, rfl, rfl, Nat.le_refl _, fun y z c h1 h2 => by rw [(look h1).1, (look h2).1], fun y hy => ?_, fun y c h _ => (by cases h), hd, Around.frames_deeper e0.frames, .inr ⟨rfl, rfl⟩, fun b z => absurd z (noA b), e0.bs, e0.bsz, fun b _ _ => noA b, fun b z => absurd z (noA b), e0.funs, e0.frf⟩,
    rfl, e0.bare, Un.kept hk, ⟨_, hns, fun i y v h1 h2 h3 => ?_⟩, fun y c h => ⟨some (.ref C), by rw [(look h).2]; exact (F.cellAt kin).keeps hk⟩, e0.hok.fresh (Nat.le_refl _), fun y c h => by rw [(look h).2]; exact ccell.2, fun p hp => (by
      have hp : p ∈ pn := by simpa using (show p ∈ pn ++ [] from hp)
      have q := hpn p hp
      exact ⟨hk p.1 p.2 q.get, q.free, Nat.ne_of_lt (Heap.lt_size q.get), q.nofs, q.nocell⟩), e0.hok.kept hk, ?_⟩
  · have hy : scope.names.lookup y = some .cell ∨ scope.names.lookup y = some .free := hy
    rcases hy with hy | hy
    · exact absurd rfl (S.nocell _ (PySem.mem_of_lookup hy))
    · exact ⟨cc, by rw [S.free y hy]; rfl⟩
  · have hi : i < vs.length := by
      unfold L2.start at h2
      by_cases hi : i < vs.length
      · exact hi
      · rw [List.getElem?_append_right (by simpa using hi), List.getElem?_replicate] at h2
        split at h2 <;> cases h2
    have ha : vs[i]? = some v := by
      unfold L2.start at h2
      rw [List.getElem?_append_left (by simpa using hi), List.getElem?_map] at h2
      cases e : vs[i]? with
      | none => rw [e] at h2; cases h2
      | some a => rw [e] at h2; cases h2; rfl
    obtain ⟨u, hu, rv⟩ := r.get ha
    have hp : ps[i]? = some y := by rw [← S.pre, List.getElem?_take_of_lt (by omega)]; exact h1
    have ndP : ps.Nodup := by rw [← S.pre]; exact S.nd.sublist (List.take_sublist _ _)
    exact ⟨u, rv, .inl ⟨S.par y (List.mem_of_getElem? hp), look_rev ndP hp hu⟩⟩
  · unfold L2.start
    show _ = N.length
    rw [List.length_append, List.length_map, List.length_replicate]
    omega
end
end GL
namespace GL
open PySem L2 PySem.Spec PyProof.Rows
structure ExcCls (K : PySem.W.Frag) (C : Addr) : Prop where
  T : OexC K C
  sup : PySem.W.ks_superIn K C C "__init__" = some (some (.builtin "ValueError.__init__"))
  sub : PySem.W.subIn K (.ref C) (.type "ValueError") = some true
  mro : PySem.W.mroIn K C (.ref C) = some true
  stat : PySem.W.nsIn K cStatics "thirdparty.any" = some none
section
variable {P : Program} {w : World} {A : Around} {E : Value → Shared → Prop} {h : Heap} {g : Array GenState} {d : Drawn} {t : Nat} {os : OsState} {K : PySem.W.Frag} {C a u t0 : Addr}
theorem call_mw {rest : List Value} {Q : Value → Shared → Prop} (T : OexC K C) (k : K.In h) (he : h.get? a = some (PySem.W.excObj C t0 none .none)) (hu : h.get? u = some (PySem.W.kxs_mw "ValueError.__init__" a)) (hz : rest.length ≤ sizeLine)
    (q : ∀ h' t1, (∀ b o, b ≠ a → h.get? b = some o → h'.get? b = some o) → h'.get? a = some (PySem.W.excObj C t1 none .none) → Q .none ⟨h', g, d, t, os⟩) : wpAny (model P w) A (call (.ref u) rest) Q E ⟨h, g, d, t, os⟩ := by
  obtain ⟨nm, qn, N, bs, bm, sn, sub, ab, col, dd, k0, k1, k2, k3, k5, hC, _⟩ := T.cls
  have hC := k _ _ hC
  refine wpAny_call (codeAny_of_tree (show wpAny _ A.in1 (callAny (.ref u) ⟨rest, []⟩) _ _ _ from ?_))
  unfold callAny
  refine wpAny_bind (wpAny_load hu ?_)
  dsimp only [PySem.W.kxs_mw]
  rw [show (Value.type "method-wrapper" == Value.type "method" || Value.type "method-wrapper" == Value.type "builtin_function_or_method" || Value.type "method-wrapper" == Value.type "method-wrapper") = true by decide]
  refine PySem.W.KFB.if_so (by decide) (wpAny_bind (PySem.W.check_bound_init F.excBase_ValueError.toExcCallFacts hC he rfl ?_))
  refine wpAny_bind (wpAny_pure (wpAny_pure ⟨plainId_quiet F.excBase_ValueError.init.plain _, codeAny_builtin F.excBase_ValueError.initEntry ?_⟩))
  exact PySem.W.exc_init_tree (cls := .ref C) (t0 := t0) (dv := none) (c2 := .none) (c3 := .none) (b4 := .bool false) he hz fun h' k' e' _ => q h' _ k' e'
end
section
variable {P : Program} {w : World} {K : PySem.W.Frag} {mg : Str → Option Value} {base : Heap} {N ps : List Str} {x qual : Str} {params : Arguments} {body : List Stmt} {scope : Scope} {f C cda cc : Addr} {fd : FuncData} {A : Around} {outer : List Env} {s0 : Shared} {H0 : Hp}
variable {pins pn : List (Addr × Obj)} {cm : Bool} {σ : L2.St} {H : Hp} {s : Shared} {a : Addr}
theorem sup_base {ar : Arg} {p0 p1 : Pos} {attr : Str} {whole : Sem Value} {Q : Value → Shared → Prop} {E : Value → Shared → Prop} (F : FunS P K x qual params body scope f fd C cda cc) (S : FnScopeS N ps scope) (G : ExcCls K C)
    (hp : (params.posonlyargs ++ params.args).head? = some ar) (h0 : N[0]? = some ar.arg) (hl : scope.names.lookup ar.arg = some .local) (hmg : mg "super" = none) (hat : (attr == ("__class__" : Str)) = false)
    (I : Inv (cxSc cm pn P w K mg base N qual scope f cda cc A outer s0 H0) pins σ H s) (h1 : σ[0]? = some (some (.ref a))) (e : H a = some (exo a C none))
    (q : ∀ h', h'.get? s.heap.objs.size = some (PySem.W.ks_superObj C a C) → (∀ b o, s.heap.get? b = some o → h'.get? b = some o) → Q (.ref s.heap.objs.size) { s with heap := h' }) :
    _root_.PySem.wpAt (model P w) (A.deeper (envS qual scope s0.heap.objs.size f cda cc)) (.func body (envS qual scope s0.heap.objs.size f cda cc)) (attributeBase (.Call (.Name "super" p0) [] [] p1) attr (envS qual scope s0.heap.objs.size f cda cc) whole) Q E s := by
  have k := I.kIn
  obtain ⟨oc, od, kV, doc, pm, an, ct, osl, rfl, lk, hcd⟩ := F.ex
  obtain ⟨ccl, cdd, vs, ccs, file, tf, hc1, hc2, hc3⟩ := F.code
  obtain ⟨nm, qn, N', bs, bm, sn, sub, ab, col, dd, k0, k1, k2, k3, k5, hC, _⟩ := G.T.cls
  obtain ⟨t1, ho⟩ := exo_at I.hok e
  obtain ⟨mb, b1, b2⟩ := I.mod.blt
  obtain ⟨m, hn, hv⟩ := I.loc
  obtain ⟨u, ru, lu⟩ := hv 0 ar.arg (.ref a) h0 h1 (.inl hl)
  obtain rfl : u = Value.ref a := ru
  have lm : m ar.arg = some (.ref a) := by
    rcases lu with ⟨_, z⟩ | ⟨z | z, _⟩
    · exact z
    · have z : scope.names.lookup ar.arg = some .cell := z
      rw [hl] at z
      cases z
    · have z : scope.names.lookup ar.arg = some .free := z
      rw [hl] at z
      cases z
  have hs : (envS qual scope s0.heap.objs.size f cda cc).kindOf "super" = some .globalImplicit := S.sup
  have hcl : (envS qual scope s0.heap.objs.size f cda cc).kindOf "__class__" = some .free := S.cls
  have hla : (envS qual scope s0.heap.objs.size f cda cc).kindOf ar.arg = some .local := hl
  refine PySem.ks_wpAt_super_base hs hcl hat rfl (k _ _ lk) rfl hp rfl (k _ _ hc1) rfl hc2 hc3 F.top ?_
  refine PySem.W.ks_loadName_global S.kind hs (Calls.loadGlobal_builtin (I.mod.glob.keeps I.bk) hmg (b1.keeps I.bk) ((b2 _ (by decide)).trans PyProof.Rows.Boot.«super») ⟨rfl, ?_⟩)
  refine wpAny_loadName_free S.kind hcl rfl (F.cellAt k) (wpAny_loadName_local S.kind hla hn lm ?_)
  obtain ⟨hp', g, d, t, os⟩ := s
  refine PySem.ks_wpAny_isType_cls (k _ _ hC) rfl ⟨rfl, ?_⟩
  exact PySem.ks_wpAny_call_super (k _ _ hC) rfl ho rfl (fun c z => by cases z) (PySem.W.looks_mroIn k G.mro) fun h' e' k' => q h' e' k'
theorem sup_stmt {ar : Arg} {p0 p1 p2 p3 p4 : Pos} {e : Expr} {Q : Flow → Shared → Prop} (F : FunS P K x qual params body scope f fd C cda cc) (S : FnScopeS N ps scope) (G : ExcCls K C)
    (hp : (params.posonlyargs ++ params.args).head? = some ar) (h0 : N[0]? = some ar.arg) (hl : scope.names.lookup ar.arg = some .local) (hmg : mg "super" = none)
    (I : Inv (cxSc cm pn P w K mg base N qual scope f cda cc A outer s0 H0) [] σ H s) (h1 : σ[0]? = some (some (.ref a))) (ea : H a = some (exo a C none))
    (he : EXt (cxSc cm pn P w K mg base N qual scope f cda cc A outer s0 H0) e σ H fun _ H1 => H1 = H)
    (q : ∀ s', Inv (cxSc cm pn P w K mg base N qual scope f cda cc A outer s0 H0) [] σ H s' → Q .next s')
    (hst : starEach [e] (envS qual scope s0.heap.objs.size f cda cc) = [(false, eval e (envS qual scope s0.heap.objs.size f cda cc))] := by rfl) (hsw : swapsWith (.Call (.Attribute (.Call (.Name "super" p0) [] [] p1) "__init__" p2) [e] [] p3) none p4.line (envS qual scope s0.heap.objs.size f cda cc) = pure false := by rfl)
    {pl : Sem Bool} (hev : eval (.Call (.Attribute (.Call (.Name "super" p0) [] [] p1) "__init__" p2) [e] [] p3) (envS qual scope s0.heap.objs.size f cda cc) = (do
      let ov ← attributeBase (.Call (.Name "super" p0) [] [] p1) "__init__" (envS qual scope s0.heap.objs.size f cda cc) (eval (.Call (.Name "super" p0) [] [] p1) (envS qual scope s0.heap.objs.size f cda cc))
      standAt p2.atName
      let (fv, first) ← holding [ov] (getMethod ov "__init__" pl)
      callWith p3 fv first (backTo p3 (starEach [e] (envS qual scope s0.heap.objs.size f cda cc))) (backToKw p3 (keywordEach [] (envS qual scope s0.heap.objs.size f cda cc)))) := by rfl) :
    _root_.PySem.wpAt (model P w) (A.deeper (envS qual scope s0.heap.objs.size f cda cc)) (.func body (envS qual scope s0.heap.objs.size f cda cc)) (exec (.Expr (.Call (.Attribute (.Call (.Name "super" p0) [] [] p1) "__init__" p2) [e] [] p3) p4) (envS qual scope s0.heap.objs.size f cda cc)) Q (fun _ _ => False) s := by
  have hq : interactive (envS qual scope s0.heap.objs.size f cda cc) = false := I.quiet
  rw [exec_Expr _ _ _ hq hsw]
  refine _root_.PySem.wpAt_bind (_root_.PySem.wpAt_of_wpAny (wpAny_standAt ?_))
  refine _root_.PySem.wpAt_bind ?_
  rw [hev]
  refine _root_.PySem.wpAt_bind (sup_base F S G hp h0 hl hmg (by decide) I h1 ea fun h1' hso k1 => _root_.PySem.wpAt_of_wpAny ?_)
  refine wpAny_bind (wpAny_standAt (wpAny_bind (wpAny_holding ?_)))
  have I1 := I.kept (t' := s.toks) k1
  have kk := I1.kIn
  obtain ⟨t1, ho⟩ := exo_at I1.hok ea
  obtain ⟨hp', g, d, t, os⟩ := s
  have hI : PySem.W.Looks (model P w) h1' (isInstance (.ref a) (.type "ValueError")) true := PySem.W.Looks.andThen (fun A Q E s k q => wpAny_typeOf_ref (k _ _ ho) q) (PySem.W.looks_subIn kk G.sub)
  have hsup := G.sup
  unfold PySem.W.ks_superIn at hsup
  cases hcl : PySem.W.clsIn K C with
  | none => rw [hcl] at hsup; cases hsup
  | some cd =>
  rw [hcl] at hsup
  have hne : a ≠ C := fun z => by
    obtain ⟨nm, qn, N', bs, bm, sn, sub, ab, col, dd, k0, k1, k2, k3, k5, hC, _⟩ := G.T.cls
    have := kk _ _ hC
    rw [← z, ho] at this
    cases this
  refine PySem.W.kxs_getMethod PySem.W.kxs_ValueError hso (PySem.W.looks_opaque kk G.stat) (l₀ := cd.mro) (fun A Q E s k q => wpAny_bind ((PySem.W.looks_clsIn kk hcl) A _ E s k (wpAny_pure q))) rfl kk hsup hI hne (by decide) ?_
  have I2 : Inv (cxSc cm pn P w K mg base N qual scope f cda cc A outer s0 H0) [] σ H ⟨h1'.push (PySem.W.kxs_mw "ValueError.__init__" a), g, d, t + 1, os⟩ := I1.kept (t' := t + 1) fun b o z => Heap.get?_push_of_some _ z
  have hu : (h1'.push (PySem.W.kxs_mw "ValueError.__init__" a)).get? h1'.objs.size = some (PySem.W.kxs_mw "ValueError.__init__" a) := Heap.get?_push_size _ rfl
  have I3 : Inv (cxSc cm pn P w K mg base N qual scope f cda cc A outer s0 H0) [(h1'.objs.size, PySem.W.kxs_mw "ValueError.__init__" a)] σ H ⟨h1'.push (PySem.W.kxs_mw "ValueError.__init__" a), g, d, t + 1, os⟩ := I2.pins_of fun p hp => by
    cases List.mem_singleton.mp hp
    exact ⟨hu, I1.hok.fresh (Nat.le_refl _), Nat.ne_of_gt I1.lt, I1.nofs (Nat.le_refl _), fun v z => by cases z⟩
  have hany : (backTo p3 (starEach [e] (envS qual scope s0.heap.objs.size f cda cc))).any (·.1) = false := by rw [hst]; rfl
  refine PySem.W.kxs_callWith (i := "ValueError.__init__") (x := a) hany ?_
  have hA : AXt (cxSc cm pn P w K mg base N qual scope f cda cc A outer s0 H0) [e] σ H (fun vs H1 => vs.length = 1 ∧ H1 = H) := ax_of (pa_cons pe_ex pa_nil hst) (he.mono fun v H1 z => ⟨rfl, z⟩)
  have hA : wpAny (model P w) (A.deeper (envS qual scope s0.heap.objs.size f cda cc)) (spliced (backTo p3 (starEach [e] (envS qual scope s0.heap.objs.size f cda cc)))) _ (fun _ _ => False) _ := hA p3 _ _ I3
  rw [hst] at hA ⊢
  refine PySem.Calls.evalArgs_plain (thn hA fun us s2 ⟨vs, H2, I4, r4, hl4, z4⟩ => ?_)
  subst z4
  have hpin := (I4.pin _ (List.mem_append_right _ List.mem_cons_self)).1
  refine ⟨hpin, ?_⟩
  obtain ⟨t2, ho2⟩ := exo_at I4.hok ea
  obtain ⟨h2, g2, d2, tk2, os2⟩ := s2
  refine call_mw G.T I4.kIn ho2 hpin (by rw [sizeLine_eq]; have := Paired.length r4; simp only [List.nil_append]; omega) fun h3 t3 k3 e3 => ?_
  have I5 : Inv (cxSc cm pn P w K mg base N qual scope f cda cc A outer s0 H0) [] σ H2 ⟨h2, g2, d2, tk2, os2⟩ := I4.pins_of fun p hp => by cases hp
  have J := I5.write (t' := tk2) (x := a) (e := a) (o := exo a C none) (h' := h3) (by rw [ea]; exact True.intro) (.inl rfl) k3 ⟨_, e3⟩ (exo_ok e3)
  have eu : upd H2 a (exo a C none) = H2 := by
    funext b
    by_cases hb : b = a
    · rw [hb, upd_same, ea]
    · rw [upd_ne hb]
  rw [eu] at J
  exact _root_.PySem.wpAt_of_wpAny (wpAny_dropValue (q _ J))
end
end GL
namespace GL
open PySem L2 PySem.Spec PyProof.Rows
section
variable {P : Program} {w : World} {K : PySem.W.Frag} {mg : Str → Option Value} {base : Heap} {N ps : List Str} {x qual : Str} {params : Arguments} {scope : Scope} {f C cda cc : Addr} {fd : FuncData}
theorem exc_fn {CX : CXT} {k : Nat} {ar : Arg} {p0 p1 p2 p3 p4 : Pos} {e : Expr} {rest : List Stmt} {sp : Sp} (F : FunS P K x qual params (.Expr (.Call (.Attribute (.Call (.Name "super" p0) [] [] p1) "__init__" p2) [e] [] p3) p4 :: rest) scope f fd C cda cc)
    (S : FnScopeS N ps scope) (G : ExcCls K C) (hp : (params.posonlyargs ++ params.args).head? = some ar) (h0 : N[0]? = some ar.arg) (hl : scope.names.lookup ar.arg = some .local) (hmg : mg "super" = none) (len : ∀ vs H Q E, sp vs H Q E → vs.length = ps.length)
    (hb : ∀ (A : Around) (outer : List Env) (s : Shared) (H : Hp) (vs : List V) (Q : VK) (E : XK), sp vs H Q E → ∃ a ws, vs = .ref a :: ws ∧ H a = some (exo a C none) ∧ EXt (cxS P w K mg base N qual scope f cda cc A outer s H) e (L2.start N vs) H (fun _ H1 => H1 = H) ∧
      BXt (cxS P w K mg base N qual scope f cda cc A outer s H) rest { nx := fun _ H' => Q .non H', rt := Q } (L2.start N vs) H)
    (hst : ∀ env, starEach [e] env = [(false, eval e env)] := by intro _; rfl) (hsw : ∀ L, swapsWith (.Call (.Attribute (.Call (.Name "super" p0) [] [] p1) "__init__" p2) [e] [] p3) none p4.line (envS qual scope L f cda cc) = pure false := by intro _; rfl)
    (hev : ∀ L, ∃ pl : Sem Bool, eval (.Call (.Attribute (.Call (.Name "super" p0) [] [] p1) "__init__" p2) [e] [] p3) (envS qual scope L f cda cc) = (do
      let ov ← attributeBase (.Call (.Name "super" p0) [] [] p1) "__init__" (envS qual scope L f cda cc) (eval (.Call (.Name "super" p0) [] [] p1) (envS qual scope L f cda cc))
      standAt p2.atName
      let (fv, first) ← holding [ov] (getMethod ov "__init__" pl)
      callWith p3 fv first (backTo p3 (starEach [e] (envS qual scope L f cda cc))) (backToKw p3 (keywordEach [] (envS qual scope L f cda cc)))) := by intro _; exact ⟨_, rfl⟩) :
    FnOk P w K mg base CX (k + 1) f fd ps sp := by
  refine ⟨len, fun A outer s H args us vs Q E hr e0 hbd r hsp => ?_⟩
  have hlen := len _ _ _ _ hsp
  obtain ⟨a, ws, rfl, ea, he, hbody⟩ := hb A outer s H vs Q E hsp
  obtain ⟨oc, od, kV, doc, pm, an, ct, osl, rfl, lk, hcd⟩ := id F.ex
  have kin : K.In s.heap := e0.mod.kin.keeps fun b o e => (e0.bs b o e).1
  have lim : s.heap.NoLimit := e0.mod.nolimit.keeps fun b o e => (e0.bs b o e).1
  have ndN : (0 : Nat) < N.length := (List.getElem?_eq_some_iff.mp h0).1
  have hs0 : (L2.start N (V.ref a :: ws))[0]? = some (some (.ref a)) := by
    unfold L2.start
    rfl
  refine PySem.ks_codeAny_call_defAt (fd := PySem.W.ksFn x qual params _ scope .none kV doc pm an (.ref cda) ct cc) (binds := ps.zip us) hr.depth (kin _ _ lk) rfl lim (PySem.W.codeRec_of kin hcd) rfl hbd S.nocell (fun y hy => S.par _ (List.of_mem_zip hy).1) (fun h1 hns hk => ?_) S.co S.gen S.kind
  have I := inv_startS (cm := true) (pn := []) (w := w) (mg := mg) (base := base) (tk := s.toks + (ps.zip us).length) F S (fun _ => hr.hd) (fun _ h => by cases h) e0 hlen r hns hk
  show _root_.PySem.wpAt (model P w) (A.deeper (envS qual scope s.heap.objs.size f cda cc)) (.func _ (envS qual scope s.heap.objs.size f cda cc)) (execs _ (envS qual scope s.heap.objs.size f cda cc)) _ _ _
  unfold execs
  obtain ⟨pl, hev⟩ := hev s.heap.objs.size
  refine _root_.PySem.wpAt_bind (_root_.PySem.wpAt_mono (sup_stmt F S G hp h0 hl hmg I hs0 ea he (Q := fun fl s2 => fl = .next ∧ Inv (cxS P w K mg base N qual scope f cda cc A outer s H) [] (L2.start N (V.ref a :: ws)) H s2) (fun s2 I2 => ⟨rfl, I2⟩) (hst _) (hsw _) (pl := pl) hev) (fun fl s2 z => ?_) fun _ _ z => z.elim)
  obtain ⟨rfl, I2⟩ := z
  refine _root_.PySem.wpAt_of_wpAny (wpAny_mono (hbody [] s2 I2) (fun fl s' hs => ?_) fun _ _ z => False.elim z)
  have fin : ∀ {σ' : L2.St} {H' : Hp} {v : V} {u : Value}, Inv (cxS P w K mg base N qual scope f cda cc A outer s H) [] σ' H' s' → RelV v u → Q v H' → CE outer P w H s Q u s' :=
    fun {σ' H' v u} J rv q => ⟨v, H', J.os, J.bare, J.base, J.hok, rv, q⟩
  cases fl with
  | ret u =>
    obtain ⟨v, σ', H', J, rv, q⟩ := hs
    exact fin J rv q
  | next =>
    obtain ⟨σ', H', J, q⟩ := hs
    exact fin (v := V.non) (u := Value.none) J rfl q
  | brk =>
    obtain ⟨_, _, _, q⟩ := hs
    exact False.elim q
  | cont =>
    obtain ⟨_, _, _, q⟩ := hs
    exact False.elim q
end
section
variable {X : Cx} {D : Ends} {σ : L2.St} {H : Hp} {a C d : Addr} {f slf : Str} {e : Expr} {rest : List Stmt} {p1 p2 p4 : Pos} {fs : List (Str × V)}
theorem bx_f1 (T : OexC X.K C) (hno : PySem.W.findIn X.K (.ref C) f = some none) (h0 : X.N[0]? = some slf) (hv : Vis X.env.scope slf) (h1 : σ[0]? = some (some (.ref a)))
    (h : EXt X e σ H fun v H1 => H1 a = some (exo a C none) ∧ ∀ d, H1 d = none → d ≠ a → BXt X rest D σ (upd (upd H1 d (exd d [(f, v)])) a (exo a C (some d))))
    (hs : swapsWith e (some (.Attribute (.Name slf p1) f p2)) p4.line X.env = pure false := by rfl) (hb : (slf == ("__debug__" : Str)) = false := by decide) (hc : (slf == ("__classdict__" : Str)) = false := by decide) : BXt X (.Assign [.Attribute (.Name slf p1) f p2] e p4 :: rest) D σ H := by
  refine bx_of (pss_cons (ps_ost (pe_var h0 hv hb hc) pe_ex hs) pss_ex) ?_
  refine h.mono fun v H1 ⟨ea, q⟩ => ?_
  exact ⟨.ref a, h1, a, C, rfl, T, hno, .inl ⟨ea, fun dx hn hne => q dx hn hne⟩⟩
theorem bx_f2 (T : OexC X.K C) (hno : PySem.W.findIn X.K (.ref C) f = some none) (h0 : X.N[0]? = some slf) (hv : Vis X.env.scope slf) (h1 : σ[0]? = some (some (.ref a))) (hz : fs.length ≤ 900)
    (h : EXt X e σ H fun v H1 => H1 a = some (exo a C (some d)) ∧ H1 d = some (exd d fs) ∧ BXt X rest D σ (upd H1 d (exd d ((f, v) :: fs))))
    (hs : swapsWith e (some (.Attribute (.Name slf p1) f p2)) p4.line X.env = pure false := by rfl) (hb : (slf == ("__debug__" : Str)) = false := by decide) (hc : (slf == ("__classdict__" : Str)) = false := by decide) : BXt X (.Assign [.Attribute (.Name slf p1) f p2] e p4 :: rest) D σ H := by
  refine bx_of (pss_cons (ps_ost (pe_var h0 hv hb hc) pe_ex hs) pss_ex) ?_
  refine h.mono fun v H1 ⟨ea, ed, q⟩ => ?_
  exact ⟨.ref a, h1, a, C, rfl, T, hno, .inr ⟨d, fs, ea, ed, hz, q⟩⟩
end
end GL
namespace GL
open PySem L2 PySem.Spec PyProof.Rows
def spEx (S : Sg0) (c : Nat) (chk : List V → Prop) : Sp := fun vs H Q _ => ∃ a ws, vs = .ref a :: ws ∧ ws.length = (S.nms c).length ∧ chk ws ∧ H a = some (exo a (S.cls c) none) ∧
  ∀ d H', H d = none → d ≠ a → H' a = some (exo a (S.cls c) (some d)) → H' d = some (exd d ((S.nms c).zip ws.reverse)) → (∀ b, b ≠ a → b ≠ d → H' b = H b) → Q .non H'
def txts (ws : List V) : Prop := ∀ v ∈ ws, ∃ z : Str, v = .str z ∧ z.length ≤ 10000
def anyV (_ : List V) : Prop := True
structure ExcP (P : Program) (w : World) (K : PySem.W.Frag) (mg : Str → Option Value) (base : Heap) (S : Sg0) (c : Nat) (fI : Addr) (fd : FuncData) (ps : List Str) (chk : List V → Prop) : Prop where
  T : OexC K (S.cls c)
  iC : PySem.W.findIn K (.ref (S.cls c)) "__init__" = some (some (.ref fI))
  tI : PySem.W.typeIn K (.ref fI) = some (.type "function")
  hb : Binds K fd ps []
  F : FnOk P w K mg base CX0 1 fI fd ps (spEx S c chk)
section
variable {X : Cx} {S : Sg} {c : Nat} {fI : Addr} {fd : FuncData} {ps : List Str} {chk : List V → Prop} {x : Str} {p pos pos' : Pos} {e : Expr} {es : List Expr} {Γ : Gm} {μ : Mem} {E : EG}
end
theorem txts_of {S : Sg0} {Hv : Hp} : ∀ {ds : List D} {vs : List V}, (∀ d ∈ ds, ∃ z : Str, d = .str z ∧ z.length ≤ 10000) → RpA S Hv vs ds → txts vs
  | [], _, _, h => by
    cases h
    intro v hv
    cases hv
  | d :: ds, _, hd, h => by
    cases h with
    | cons r t =>
    obtain ⟨z, rfl, hz⟩ := hd d List.mem_cons_self
    cases r
    intro v hv
    rcases List.mem_cons.mp hv with rfl | hv
    · exact ⟨z, rfl, hz⟩
    · exact txts_of (fun d hd' => hd d (List.mem_cons_of_mem _ hd')) t v hv
section
variable {X : Cx} {S : Sg} {a dd : Addr} {c : Nat} {l : List D} {oe : Obj} {cls : Value} {d : Option Addr} {pn : List (Addr × Obj)} {e : Expr} {Γ : Gm} {μ : Mem} {Q : QD} {pos : Pos} {n : Str}
end
end GL
namespace GL
open PySem L2 PySem.Spec PyProof.Rows
abbrev Cl3 := Value × Nat × (Addr → Value → Option Addr → TS)
def offE (D : Ends) (i : Nat) : Ends := { nx := fun τ G => D.nx (τ.set i none) G, rt := D.rt, bk := fun τ G => D.bk (τ.set i none) G, ct := fun τ G => D.ct (τ.set i none) G }
def wMs (K : PySem.W.Frag) (W0 : WX) (D : Ends) : List Cl3 → WX
  | [] => W0
  | (c, i, ts) :: r => fun cls d τ G => ∃ b, PySem.W.exmOne K cls c = some b ∧ (b = true → ∀ a, G a = none → ts a cls d (offE D i) (τ.set i (some (.ref a))) G) ∧ (b = false → wMs K W0 D r cls d τ G)
inductive Hd3 (X : Cx) : List ExceptHandler → List Cl3 → Prop
  | nil : Hd3 X [] []
  | cons {x n : Str} {c : Value} {i : Nat} {ts : Addr → Value → Option Addr → TS} {st : Stmt} {suite : List Stmt} {np pp : Pos} {hds : List ExceptHandler} {l : List Cl3} (hi : X.N[i]? = some n) (hn : X.env.kindOf n = some .local) (hc : Names X x c)
      (hb : ∀ (a : Addr) (oe : Obj) (cls : Value) (d : Option Addr) (pn : List (Addr × Obj)), Zc cls d oe → (∃ vs, oe.data = .fields vs) → PSs (X.suite a ((a, oe) :: pn)) (st :: suite) (ts a cls d)) (r : Hd3 X hds l) :
      Hd3 X (.ExceptHandler (some (.Name x np)) (some n) (st :: suite) pp :: hds) ((c, i, ts) :: l)
section
variable {X : Cx} {body : List Stmt} {h0 : ExceptHandler} {hds : List ExceptHandler} {l : List Cl3} {pos : Pos} {tb : WX → TS} {W0 : WX}
end
end GL
namespace GL
open PySem L2 PySem.Spec PyProof.Rows
abbrev EG.off (E : EG) (i : Nat) : EG := { nx := fun Γ μ => E.nx (Γ.set i none) μ, rt := E.rt, bk := fun Γ μ => E.bk (Γ.set i none) μ, ct := fun Γ μ => E.ct (Γ.set i none) μ }
def hdlQ (X : Cx) (S : Sg0) (E : EG) (suite : List Stmt) (c : Value) (i : Nat) (q : QE) : QE := fun k ds μ => ∃ b, PySem.W.exmOne X.K (.ref (S.cls k)) c = some b ∧
  (b = true → ∀ (a dd : Addr) (oe : Obj) (pn : List (Addr × Obj)), Zc (.ref (S.cls k)) (some dd) oe → (∃ vs, oe.data = .fields vs) → BlG (X.suite a ((a, oe) :: pn)) S.nx suite ((List.replicate X.N.length none).set i (some (.cau a dd k ds))) μ (E.off i)) ∧ (b = false → q k ds μ)
def tsG (X : Cx) (suite : List Stmt) : Addr → Value → Option Addr → TS := fun a cls d D σ H => ∀ (oe : Obj) (pn : List (Addr × Obj)), Zc cls d oe → (∃ vs, oe.data = .fields vs) → BXt (X.suite a ((a, oe) :: pn)) suite D σ H
inductive HdG (X : Cx) (S : Sg) (E : EG) : List ExceptHandler → List Cl3 → QE → Prop
  | nil : HdG X S E [] [] S.qx
  | cons {x n : Str} {c : Value} {i : Nat} {st : Stmt} {suite : List Stmt} {np pp : Pos} {hds : List ExceptHandler} {l : List Cl3} {q : QE} (hi : X.N[i]? = some n) (hn : X.env.kindOf n = some .local) (hc : Names X x c) (r : HdG X S E hds l q) :
      HdG X S E (.ExceptHandler (some (.Name x np)) (some n) (st :: suite) pp :: hds) ((c, i, tsG X (st :: suite)) :: l) (hdlQ X S E (st :: suite) c i q)
theorem BXt.mono {X : Cx} {sts : List Stmt} {D D' : Ends} {σ : L2.St} {H : Hp} (h : BXt X sts D σ H) (h1 : ∀ σ H, D.nx σ H → D'.nx σ H) (h2 : ∀ v H, D.rt v H → D'.rt v H) (h3 : ∀ σ H, D.bk σ H → D'.bk σ H) (h4 : ∀ σ H, D.ct σ H → D'.ct σ H) : BXt X sts D' σ H := ⟨fun pins s I =>
  thn (h pins s I) fun f s' q => by
    cases f with
    | next => obtain ⟨σ', H', I', q⟩ := q; exact ⟨σ', H', I', h1 _ _ q⟩
    | brk => obtain ⟨σ', H', I', q⟩ := q; exact ⟨σ', H', I', h3 _ _ q⟩
    | cont => obtain ⟨σ', H', I', q⟩ := q; exact ⟨σ', H', I', h4 _ _ q⟩
    | ret u => obtain ⟨v, σ', H', I', r, q⟩ := q; exact ⟨v, σ', H', I', r, h2 _ _ q⟩⟩
theorem rel_none {S : Sg0} {Hv : Hp} : ∀ {σ : L2.St} {n : Nat}, σ.length = n → RelS S Hv σ (List.replicate n none)
  | [], 0, _ => .nil
  | [], n + 1, h => by simp at h
  | v :: σ, 0, h => by simp at h
  | v :: σ, n + 1, h => .cons (fun d hd => by cases hd) (rel_none (by simpa using h))
section
variable {X : Cx} {S : Sg} {E : EG} {hds : List ExceptHandler} {l : List Cl3} {q : QE} {body : List Stmt} {Γ : Gm} {μ : Mem} {pos : Pos}
theorem HdG.wish {F N : Hp} (h : HdG X S E hds l q) (iv : S.iv F N) {k : Nat} {dd : Addr} {vs : List V} {ds : List D} {μ : Mem} {H : Hp} {σ : L2.St} (hd : H dd = some (.xd ((S.nms k).zip vs))) (hl : vs.length = (S.nms k).length) (ra : RpA S (vis N H (adr μ)) vs ds) (r : RelM0 S F N H μ) (n1 : N dd = none) (n2 : dd ∉ adr μ)
    (hσ : σ.length = X.N.length) (hq : q k ds μ) : wMs X.K (fun cls d _ H => S.wx cls d H) (E.ends S F N) l (.ref (S.cls k)) (some dd) σ H := by
  induction h with
  | nil => exact iv _ _ _ ⟨k, dd, vs, ds, μ, rfl, rfl, hd, hl, ra, r, n1, n2, hq⟩
  | @cons x n c i st suite np pp hds l q hi hn hc r' ih =>
    obtain ⟨b, e, h1, h2⟩ := hq
    refine ⟨b, e, fun hb a ha oe pn hz hf => ?_, fun hb => ih (h2 hb)⟩
    have rs := RelS.set (Rp.cau (a := a) (vis_mk hd n1 n2) hl ra) i (rel_none (S := S) hσ)
    refine BXt.mono (h1 hb a dd oe pn hz hf F N _ H ⟨r, nx_iv⟩ rs) (fun σ' H' ⟨Γ', μ', r6, rs6, z⟩ => ?_) (fun v H' ⟨d', μ', r6, rd, z⟩ => ?_) (fun σ' H' ⟨Γ', μ', r6, rs6, z⟩ => ?_) (fun σ' H' ⟨Γ', μ', r6, rs6, z⟩ => ?_)
    · exact ⟨_, μ', ⟨r6.toRelM0, iv⟩, RelS.setN i rs6, z⟩
    · exact ⟨d', μ', ⟨r6.toRelM0, iv⟩, rd, z⟩
    · exact ⟨_, μ', ⟨r6.toRelM0, iv⟩, RelS.setN i rs6, z⟩
    · exact ⟨_, μ', ⟨r6.toRelM0, iv⟩, RelS.setN i rs6, z⟩
end
end GL
namespace GL
open PySem L2 PySem.Spec PyProof.Rows
def kD : Key → D
  | .inl i => .int i
  | .inr x => .str x
section
variable {κ : Type} [DecidableEq κ]
def valD (kvs : List (κ × D)) (k : κ) : Option D := (kvs.find? fun kv => decide (kv.1 = k)).map (·.2)
def putKD (kvs : List (κ × D)) (k : κ) (v : D) : List (κ × D) := if (kvs.any fun kv => decide (kv.1 = k)) = true then kvs.map (fun kv => if kv.1 = k then (kv.1, v) else kv) else kvs ++ [(k, v)]
variable {S : Sg0} {H : Hp}
theorem RpK.val : ∀ {vs : List (κ × V)} {kvs : List (κ × D)} (k : κ), RpK S H vs kvs → (∃ v d, valV vs k = some v ∧ valD kvs k = some d ∧ Rp S H v d) ∨ (valV vs k = none ∧ valD kvs k = none)
  | _, _, _, .nil => .inr ⟨rfl, rfl⟩
  | _, _, k, @RpK.cons _ _ _ j v d vs kvs r t => by
    by_cases e : j = k
    · refine .inl ⟨v, d, ?_, ?_, r⟩
      · unfold valV; rw [List.find?_cons_of_pos (by simp [e])]; rfl
      · unfold valD; rw [List.find?_cons_of_pos (by simp [e])]; rfl
    · have h1 : valV ((j, v) :: vs) k = valV vs k := by unfold valV; rw [List.find?_cons_of_neg (by simp [e])]
      have h2 : valD ((j, d) :: kvs) k = valD kvs k := by unfold valD; rw [List.find?_cons_of_neg (by simp [e])]
      rw [h1, h2]
      exact RpK.val k t
theorem RpK.length : ∀ {vs : List (κ × V)} {kvs : List (κ × D)}, RpK S H vs kvs → vs.length = kvs.length
  | _, _, .nil => rfl
  | _, _, .cons _ t => by rw [List.length_cons, List.length_cons, RpK.length t]
theorem RpK.any : ∀ {vs : List (κ × V)} {kvs : List (κ × D)} (k : κ), RpK S H vs kvs → (vs.any fun kv => decide (kv.1 = k)) = kvs.any fun kv => decide (kv.1 = k)
  | _, _, _, .nil => rfl
  | _, _, k, .cons _ t => by rw [List.any_cons, List.any_cons, RpK.any k t]
theorem RpK.mapK {v : V} {d : D} {k : κ} (r : Rp S H v d) : ∀ {vs : List (κ × V)} {kvs : List (κ × D)}, RpK S H vs kvs → RpK S H (vs.map (fun kv => if kv.1 = k then (kv.1, v) else kv)) (kvs.map (fun kv => if kv.1 = k then (kv.1, d) else kv))
  | _, _, .nil => .nil
  | _, _, @RpK.cons _ _ _ j w e vs kvs r' t => by
    rw [List.map_cons, List.map_cons]
    by_cases h : j = k
    · rw [if_pos (show (j, w).1 = k from h), if_pos (show (j, e).1 = k from h)]
      exact .cons r (RpK.mapK r t)
    · rw [if_neg (show ¬ (j, w).1 = k from h), if_neg (show ¬ (j, e).1 = k from h)]
      exact .cons r' (RpK.mapK r t)
theorem RpK.app {v : V} {d : D} {k : κ} (r : Rp S H v d) : ∀ {vs : List (κ × V)} {kvs : List (κ × D)}, RpK S H vs kvs → RpK S H (vs ++ [(k, v)]) (kvs ++ [(k, d)])
  | _, _, .nil => .cons r .nil
  | _, _, .cons r' t => .cons r' (RpK.app r t)
theorem RpK.put {v : V} {d : D} {k : κ} (r : Rp S H v d) {vs : List (κ × V)} {kvs : List (κ × D)} (h : RpK S H vs kvs) : RpK S H (putK vs k v) (putKD kvs k d) := by
  unfold putK putKD
  rw [h.any k]
  split
  · exact h.mapK r
  · exact h.app r
theorem RpK.get {k : κ} {d : D} : ∀ {vs : List (κ × V)} {kvs : List (κ × D)} {i : Nat}, RpK S H vs kvs → kvs[i]? = some (k, d) → ∃ v, vs[i]? = some (k, v) ∧ Rp S H v d
  | _, _, _, .nil, e => by simp at e
  | _, _, 0, .cons r _, e => by
    simp at e
    obtain ⟨rfl, rfl⟩ := e
    exact ⟨_, by simp, r⟩
  | _, _, i + 1, .cons _ t, e => by
    obtain ⟨v, h1, h2⟩ := RpK.get (k := k) (d := d) (i := i) t (by simpa using e)
    exact ⟨v, by simpa using h1, h2⟩
end
section
variable {X : Cx} {S : Sg} {o e f : Expr} {es : List Expr} {kk : Nat} {Γ : Gm} {μ : Mem} {Q : QD} {pos p1 p2 apos cpos : Pos} {d : D}
end
end GL
namespace GL
open PySem L2 PySem.Spec PyProof.Rows PySem.W PySem.Calls
def ItiT (d : Addr) (o : Obj) (kvs : List (List L2.Key × V)) : It :=
  ⟨fun i H => H d = some (.frz o (.dT kvs)) ∧ i < kvs.length, fun i H x H' => ∃ T k v q, kvs[i]? = some (k, v) ∧ x = .ref T ∧ H T = none ∧ H q = some (.tup (k.map kV)) ∧ H' = upd H T (.tup [.ref q, v]), fun i H => H d = some (.frz o (.dT kvs)) ∧ kvs.length ≤ i⟩
section
variable {X : Cx} {pins : List (Addr × Obj)} {σ : L2.St} {H : Hp} {s : Shared} {d : Addr} {o : Obj}
def iItemsT (td : TE) : TI := fun σ H R => td σ H fun x H1 => ∃ d o kvs, x = .ref d ∧ H1 d = some (.frz o (.dT kvs)) ∧ R (ItiT d o kvs) H1
end
section
variable {X : Cx} {S : Sg} {e : Expr} {Γ : Gm} {μ : Mem} {R : RI} {a : Addr} {ob : Obj} {kvs : List (List L2.Key × D)} {vs : List (List L2.Key × V)} {elts : List Expr} {kk : Nat} {tpos apos cpos : Pos}
end
end GL
namespace GL
open PySem L2 PySem.Spec PyProof.Rows ClX
section
variable {X : Cx} {S : Sg} {CX : CXT} {k : Nat} {f C p g : Addr} {fd : FuncData} {ps : List Str} {sg : SpG} {dvs : List V} {dfs : List Value} {dds : List D} {m x : Str} {pos apos np : Pos} {e o : Expr} {es : List Expr} {Γ : Gm} {μ : Mem} {Q : QD} {d : D} {mc : Value}
end
theorem cls_some {K : PySem.W.Frag} {C N : Addr} {nm qn : Str} {bs bm : List Value} {sn : List Str} {sub : List Value} {ab hd : Bool} {col : Option Bool} {dd : Option Addr} {k0 k1 k2 k3 k5 : Option Value} {nw : String} (h : K.lookup C = some (excClassObj nm qn C N bs bm hd sn sub ab col dd k0 k1 k2 k3 k5 nw)) : (PySem.W.clsIn K C).isSome = true := by
  unfold PySem.W.clsIn
  rw [h]
  rfl
end GL
namespace GL
open PySem L2 PySem.Spec PyProof.Rows
section
variable {S : Sg} {F N H : Hp} {μ μ' : Mem}
theorem sub_vis (s : μ'.Sublist μ) : Ex (vis N H (adr μ)) (vis N H (adr μ')) := fun b o e => by
  obtain ⟨h1, h2, h3⟩ := vis_in e
  exact vis_mk h3 h1 fun z => h2 ((s.map (·.1)).subset z)
theorem RelM.drop (r : RelM S F N H μ) (s : μ'.Sublist μ) : RelM S F N H μ' :=
  ⟨⟨r.hid, fun a ha => r.dis a ((s.map (·.1)).subset ha), r.ext.trans (sub_vis s), r.nd.sublist (s.map (·.1)), fun p hp => by
    obtain ⟨o, h1, h2⟩ := r.mem p (s.subset hp)
    exact ⟨o, h1, h2.ext (sub_vis s)⟩, r.tup⟩, r.iv⟩
end
section
variable {X : Cx} {S : Sg} {e : Expr} {sts : List Stmt} {st : Stmt} {Γ : Gm} {μ μ' : Mem} {Q : QD} {E : EG}
end
theorem spEx_end1 {H : Hp} {a d C : Addr} {f : Str} {v : V} (hne : d ≠ a) : upd (upd H d (exd d [(f, v)])) a (exo a C (some d)) a = some (exo a C (some d)) ∧ upd (upd H d (exd d [(f, v)])) a (exo a C (some d)) d = some (exd d [(f, v)]) ∧ ∀ b, b ≠ a → b ≠ d → upd (upd H d (exd d [(f, v)])) a (exo a C (some d)) b = H b :=
  ⟨upd_same, by rw [upd_ne hne, upd_same], fun b h1 h2 => by rw [upd_ne h1, upd_ne h2]⟩
end GL
namespace GL
open PySem L2
def notComp : Expr → Bool | .ListComp _ _ _ _ => false | .SetComp _ _ _ _ => false | .DictComp _ _ _ _ _ => false | _ => true
theorem swaps_no {e : Expr} {t : Option Expr} {l : Nat} {env : Env} (h : notComp e = true) : swapsWith e t l env = pure false := by
  cases e <;> first | rfl | exact nomatch h
end GL
namespace GL
open PySem L2 PySem.Spec PyProof.Rows
mutual
theorem D.ok_up : ∀ {n m : Nat} {d : D}, D.ok n d = true → n ≤ m → D.ok m d = true
  | n, m, .non, _, _ => by cases m <;> rfl
  | n, m, .bl b, _, _ => by cases m <;> rfl
  | n, m, .int i, _, _ => by cases m <;> rfl
  | n, m, .str x, h, _ => by cases n <;> cases m <;> exact h
  | 0, m, .lst l, h, _ => by simp [D.ok] at h
  | n + 1, 0, .lst l, _, hm => by omega
  | n + 1, m + 1, .lst l, h, hm => by
    have h' : D.okA n l = true := by simpa only [D.ok] using h
    simp only [D.ok]
    exact D.okA_up h' (by omega)
  | 0, m, .tup l, h, _ => by simp [D.ok] at h
  | n + 1, 0, .tup l, _, hm => by omega
  | n + 1, m + 1, .tup l, h, hm => by
    have h' : D.okA n l = true := by simpa only [D.ok] using h
    simp only [D.ok]
    exact D.okA_up h' (by omega)
  | n, m, .obj c l, h, _ => by cases n <;> simp [D.ok] at h
  | n, m, .ref a, h, _ => by cases n <;> simp [D.ok] at h
  | n, m, .scr a, h, _ => by cases n <;> simp [D.ok] at h
  | n, m, .ty a, h, _ => by cases n <;> simp [D.ok] at h
  | n, m, .dK a b, h, _ => by cases n <;> simp [D.ok] at h
  | n, m, .dT a b, h, _ => by cases n <;> simp [D.ok] at h
  | n, m, .exc a b, h, _ => by cases n <;> simp [D.ok] at h
  | n, m, .cau a b c d, h, _ => by cases n <;> simp [D.ok] at h
  | n, m, .lsr a b, h, _ => by cases n <;> simp [D.ok] at h
  | n, m, .idn a b, h, _ => by cases n <;> simp [D.ok] at h
theorem D.okA_up : ∀ {n m : Nat} {l : List D}, D.okA n l = true → n ≤ m → D.okA m l = true
  | n, m, [], _, _ => by simp [D.okA]
  | n, m, d :: l, h, hm => by
    have h' : D.ok n d = true ∧ D.okA n l = true := by simpa [D.okA] using h
    simp only [D.okA, Bool.and_eq_true]
    exact ⟨D.ok_up h'.1 hm, D.okA_up h'.2 hm⟩
end
class Rpd (α : Type) where
  rp : α → D
abbrev rp {α : Type} [Rpd α] (x : α) : D := Rpd.rp x
class Dt (α : Type) [DecidableEq α] extends Rpd α where
  dep : Nat
  dok : ∀ x : α, D.ok dep (rp x) = true
  deq : ∀ x y : α, D.eqv (rp x) (rp y) = decide (x = y)
class Nn (α : Type) [DecidableEq α] [Dt α] : Prop where
  nn : ∀ x : α, D.eqv .non (Rpd.rp x) = false ∧ D.eqv (Rpd.rp x) .non = false
abbrev Nm := {x : Str // OkS x ∧ x.length ≤ 1000}
structure T3 (α β γ : Type) where
  a : α
  b : β
  c : γ
deriving DecidableEq
structure T4 (α β γ δ : Type) where
  a : α
  b : β
  c : γ
  d : δ
deriving DecidableEq
structure Tu (α : Type) where
  l : List α
deriving DecidableEq
instance : Rpd Int := ⟨.int⟩
instance : Rpd Bool := ⟨.bl⟩
instance : Rpd Unit := ⟨fun _ => .non⟩
instance : Rpd Nm := ⟨fun x => .str x.1⟩
section
variable {α β γ δ : Type}
instance [Rpd α] : Rpd (List α) := ⟨fun l => .lst (l.map rp)⟩
instance [Rpd α] : Rpd (Tu α) := ⟨fun l => .tup (l.l.map rp)⟩
instance [Rpd α] [Rpd β] : Rpd (α × β) := ⟨fun x => .tup [rp x.1, rp x.2]⟩
instance [Rpd α] [Rpd β] [Rpd γ] : Rpd (T3 α β γ) := ⟨fun x => .tup [rp x.a, rp x.b, rp x.c]⟩
instance [Rpd α] [Rpd β] [Rpd γ] [Rpd δ] : Rpd (T4 α β γ δ) := ⟨fun x => .tup [rp x.a, rp x.b, rp x.c, rp x.d]⟩
instance [Rpd α] : Rpd (Option α) := ⟨fun x => match x with | none => .non | some y => rp y⟩
end
theorem eqv_tup0 {d e : D} {l k : List D} : D.eqv (.tup (d :: l)) (.tup (e :: k)) = (D.eqv d e && D.eqv (.tup l) (.tup k)) := by
  simp [D.eqv, D.py, D.pyA, PyData.eqv, PyData.eqvAll]
theorem eqv_tupN : D.eqv (.tup []) (.tup []) = true := by
  simp [D.eqv, D.py, D.pyA, PyData.eqv, PyData.eqvAll]
theorem eqv_tuple {α : Type} [DecidableEq α] (f : α → D) (h : ∀ a b, D.eqv (f a) (f b) = decide (a = b)) : ∀ xs ys : List α, D.eqv (.tup (xs.map f)) (.tup (ys.map f)) = decide (xs = ys)
  | [], [] => by simp [D.eqv, D.py, D.pyA, PyData.eqv, PyData.eqvAll]
  | [], _ :: _ => by simp [D.eqv, D.py, D.pyA, PyData.eqv, PyData.eqvAll]
  | _ :: _, [] => by simp [D.eqv, D.py, D.pyA, PyData.eqv, PyData.eqvAll]
  | x :: xs, y :: ys => by
    have ih := eqv_tuple f h xs ys
    have h1 := h x y
    simp only [D.eqv, D.py, D.pyA, PyData.eqv, PyData.eqvAll, List.map_cons] at ih h1 ⊢
    rw [ih, h1, Bool.eq_iff_iff]
    simp
theorem and_dec {p q : Prop} [Decidable p] [Decidable q] : (decide p && decide q) = decide (p ∧ q) := by
  by_cases h : p <;> by_cases k : q <;> simp [h, k]
theorem eqv_int (x y : Int) : D.eqv (.int x) (.int y) = decide (x = y) := by
  simp only [D.eqv, D.py, PyData.eqv]
  exact Bool.beq_eq_decide_eq x y
instance : Dt Int where
  dep := 0
  dok _ := rfl
  deq := eqv_int
instance : Dt Bool where
  dep := 0
  dok _ := rfl
  deq x y := by
    show PyData.eqv (.bool x) (.bool y) = _
    cases x <;> cases y <;> rfl
instance : Dt Nm where
  dep := 0
  dok x := x.2.1
  deq x y := by
    refine (eqv_str x.1 y.1).trans (decide_eq_decide.mpr ⟨fun h => Subtype.ext h, fun h => by rw [h]⟩)
section
variable {α β γ δ : Type} [DecidableEq α] [DecidableEq β] [DecidableEq γ] [DecidableEq δ]
theorem okA_map {f : α → D} {n : Nat} (h : ∀ x, D.ok n (f x) = true) (l : List α) : D.okA n (l.map f) = true := by
  rw [D.okA_all]
  intro d hd
  obtain ⟨x, _, rfl⟩ := List.mem_map.mp hd
  exact h x
instance [Dt α] : Dt (List α) where
  dep := Dt.dep α + 1
  dok l := by
    show D.okA (Dt.dep α) (l.map rp) = true
    exact okA_map (fun x => Dt.dok x) l
  deq := eqv_list _ Dt.deq
instance [Dt α] : Dt (Tu α) where
  dep := Dt.dep α + 1
  dok l := by
    show D.okA (Dt.dep α) (l.l.map rp) = true
    exact okA_map (fun x => Dt.dok x) l.l
  deq x y := by
    refine (eqv_tuple _ Dt.deq x.l y.l).trans (decide_eq_decide.mpr ⟨fun h => ?_, fun h => by rw [h]⟩)
    cases x
    cases y
    exact congrArg Tu.mk h
instance [Dt α] [Dt β] : Dt (α × β) where
  dep := max (Dt.dep α) (Dt.dep β) + 1
  dok x := by
    show D.okA (max (Dt.dep α) (Dt.dep β)) [rp x.1, rp x.2] = true
    rw [D.okA_all]
    intro d hd
    rcases List.mem_cons.mp hd with rfl | hd
    · exact D.ok_up (Dt.dok x.1) (by omega)
    · cases List.mem_singleton.mp hd
      exact D.ok_up (Dt.dok x.2) (by omega)
  deq x y := by
    show D.eqv (.tup [rp x.1, rp x.2]) (.tup [rp y.1, rp y.2]) = _
    rw [eqv_tup0, eqv_tup0, eqv_tupN, Dt.deq, Dt.deq, Bool.and_true, and_dec]
    exact decide_eq_decide.mpr Prod.ext_iff.symm
instance [Dt α] [Dt β] [Dt γ] : Dt (T3 α β γ) where
  dep := max (Dt.dep α) (max (Dt.dep β) (Dt.dep γ)) + 1
  dok x := by
    show D.okA (max (Dt.dep α) (max (Dt.dep β) (Dt.dep γ))) [rp x.a, rp x.b, rp x.c] = true
    rw [D.okA_all]
    intro d hd
    rcases List.mem_cons.mp hd with rfl | hd
    · exact D.ok_up (Dt.dok x.a) (by omega)
    rcases List.mem_cons.mp hd with rfl | hd
    · exact D.ok_up (Dt.dok x.b) (by omega)
    · cases List.mem_singleton.mp hd
      exact D.ok_up (Dt.dok x.c) (by omega)
  deq x y := by
    show D.eqv (.tup [rp x.a, rp x.b, rp x.c]) (.tup [rp y.a, rp y.b, rp y.c]) = _
    rw [eqv_tup0, eqv_tup0, eqv_tup0, eqv_tupN, Dt.deq, Dt.deq, Dt.deq, Bool.and_true, and_dec, and_dec]
    cases x
    cases y
    exact decide_eq_decide.mpr (by simp)
instance [Dt α] [Dt β] [Dt γ] [Dt δ] : Dt (T4 α β γ δ) where
  dep := max (Dt.dep α) (max (Dt.dep β) (max (Dt.dep γ) (Dt.dep δ))) + 1
  dok x := by
    show D.okA (max (Dt.dep α) (max (Dt.dep β) (max (Dt.dep γ) (Dt.dep δ)))) [rp x.a, rp x.b, rp x.c, rp x.d] = true
    rw [D.okA_all]
    intro d hd
    rcases List.mem_cons.mp hd with rfl | hd
    · exact D.ok_up (Dt.dok x.a) (by omega)
    rcases List.mem_cons.mp hd with rfl | hd
    · exact D.ok_up (Dt.dok x.b) (by omega)
    rcases List.mem_cons.mp hd with rfl | hd
    · exact D.ok_up (Dt.dok x.c) (by omega)
    · cases List.mem_singleton.mp hd
      exact D.ok_up (Dt.dok x.d) (by omega)
  deq x y := by
    show D.eqv (.tup [rp x.a, rp x.b, rp x.c, rp x.d]) (.tup [rp y.a, rp y.b, rp y.c, rp y.d]) = _
    rw [eqv_tup0, eqv_tup0, eqv_tup0, eqv_tup0, eqv_tupN, Dt.deq, Dt.deq, Dt.deq, Dt.deq, Bool.and_true, and_dec, and_dec, and_dec]
    cases x
    cases y
    exact decide_eq_decide.mpr (by simp)
instance : Nn Int := ⟨fun x => by simp [Rpd.rp, D.eqv, D.py, PyData.eqv]⟩
instance : Nn Bool := ⟨fun x => by simp [Rpd.rp, D.eqv, D.py, PyData.eqv]⟩
instance : Nn Nm := ⟨fun x => by simp [Rpd.rp, D.eqv, D.py, PyData.eqv]⟩
instance [Dt α] : Nn (List α) := ⟨fun x => by simp [Rpd.rp, D.eqv, D.py, PyData.eqv]⟩
instance [Dt α] : Nn (Tu α) := ⟨fun x => by simp [Rpd.rp, D.eqv, D.py, PyData.eqv]⟩
instance [Dt α] [Dt β] : Nn (α × β) := ⟨fun x => by simp [Rpd.rp, D.eqv, D.py, PyData.eqv]⟩
instance [Dt α] [Dt β] [Dt γ] : Nn (T3 α β γ) := ⟨fun x => by simp [Rpd.rp, D.eqv, D.py, PyData.eqv]⟩
instance [Dt α] [Dt β] [Dt γ] [Dt δ] : Nn (T4 α β γ δ) := ⟨fun x => by simp [Rpd.rp, D.eqv, D.py, PyData.eqv]⟩
instance [Dt α] [Nn α] : Dt (Option α) where
  dep := Dt.dep α
  dok x := by
    cases x with
    | none => cases h : Dt.dep α <;> rfl
    | some y => exact Dt.dok y
  deq x y := by
    cases x with
    | none => cases y with
      | none => show D.eqv .non .non = _; simp [D.eqv, D.py, PyData.eqv]
      | some y => exact (Nn.nn y).1.trans (by simp)
    | some x => cases y with
      | none => exact (Nn.nn x).2.trans (by simp)
      | some y => exact (Dt.deq x y).trans (decide_eq_decide.mpr (by simp))
end
end GL
namespace GL
open PySem L2 PySem.Spec PyProof.Rows
mutual
def D.only (b : Bool) (cs : List Nat) : D → Bool
  | .lst l => b && D.onlyA b cs l
  | .tup l => D.onlyA b cs l
  | .obj c l => cs.contains c && D.onlyA b cs l
  | .dK _ l => D.onlyA b cs l
  | .dT _ l => D.onlyA b cs l
  | .exc _ l => D.onlyA b cs l
  | .cau _ _ _ l => D.onlyA b cs l
  | .lsr _ l => b && D.onlyA b cs l
  | .idn _ d => D.only b cs d
  | .scr _ => b
  | _ => true
def D.onlyA (b : Bool) (cs : List Nat) : List D → Bool
  | [] => true
  | d :: l => D.only b cs d && D.onlyA b cs l
end
mutual
theorem D.only_up {b : Bool} {cs : List Nat} : ∀ {d : D}, D.only false [] d = true → D.only b cs d = true
  | .lst l, h => by simp [D.only] at h
  | .tup l, h => by simp only [D.only] at h ⊢; exact D.onlyA_up h
  | .obj c l, h => by simp [D.only] at h
  | .dK _ l, h => by simp only [D.only] at h ⊢; exact D.onlyA_up h
  | .dT _ l, h => by simp only [D.only] at h ⊢; exact D.onlyA_up h
  | .exc _ l, h => by simp only [D.only] at h ⊢; exact D.onlyA_up h
  | .cau _ _ _ l, h => by simp only [D.only] at h ⊢; exact D.onlyA_up h
  | .lsr _ l, h => by simp [D.only] at h
  | .idn _ d, h => by simp only [D.only] at h ⊢; exact D.only_up h
  | .scr _, h => by simp [D.only] at h
  | .non, _ => rfl
  | .bl _, _ => rfl
  | .int _, _ => rfl
  | .str _, _ => rfl
  | .ref _, _ => rfl
  | .ty _, _ => rfl
theorem D.onlyA_up {b : Bool} {cs : List Nat} : ∀ {l : List D}, D.onlyA false [] l = true → D.onlyA b cs l = true
  | [], _ => rfl
  | d :: l, h => by
    simp only [D.onlyA, Bool.and_eq_true] at h ⊢
    exact ⟨D.only_up h.1, D.onlyA_up h.2⟩
end
abbrev Plain (fs : List D) : Prop := D.onlyA false [] fs = true
abbrev KX := Nat → List D → Prop
section
variable {A ρ : Type} [Rpd ρ]
def sgN (args : A → List D) (m : A → (ρ → Prop) → Prop) : SpG := fun ds μ Q _ => ∃ a k, ds = args a ∧ μ = [] ∧ m a k ∧ ∀ r, k r → Q (rp r) []
def sgX (args : A → List D) (m : A → (ρ → Prop) → KX → Prop) : SpG := fun ds μ Q E => ∃ a k kx, ds = args a ∧ μ = [] ∧ m a k kx ∧ (∀ r, k r → Q (rp r) []) ∧ ∀ c fs, kx c fs → Plain fs → E c fs []
def sgP (args : A → List D) (m : A → (ρ → Prop) → Prop) : SpG := fun ds μ Q _ => ∃ a p l k, ds = .ref p :: args a ∧ μ = [(p, .lst l)] ∧ PoolOk l ∧ m a k ∧ ∀ r l', PoolOk l' → k r → Q (rp r) [(p, .lst l')]
variable {args : A → List D}
theorem sgN_mono {m : A → (ρ → Prop) → Prop} : MonoG (sgN args m) := fun _ _ _ _ _ _ ⟨a, k, h1, h2, h3, q⟩ w _ => ⟨a, k, h1, h2, h3, fun r hr => w _ _ (q r hr)⟩
theorem sgP_mono {m : A → (ρ → Prop) → Prop} : MonoG (sgP args m) := fun _ _ _ _ _ _ ⟨a, p, l, k, h1, h2, h3, h4, q⟩ w _ => ⟨a, p, l, k, h1, h2, h3, h4, fun r l' hl hr => w _ _ (q r l' hl hr)⟩
variable {S : Sg} {μ : Mem} {Q : QD} {ds : List D}
theorem ask_n {m : A → (ρ → Prop) → Prop} {k : ρ → Prop} (a : A) (hd : ds = args a) (h : m a k) (q : ∀ r, k r → Q (rp r) μ) : AskG S (sgN args m) ds μ Q := ⟨[], μ, Split.none μ, a, k, hd, rfl, h, q⟩
theorem ask_p {m : A → (ρ → Prop) → Prop} {k : ρ → Prop} {p : Addr} {l : List D} (a : A) (hd : ds = .ref p :: args a) (hl : PoolOk l) (h : m a k) (q : ∀ r l', PoolOk l' → k r → Q (rp r) ((p, .lst l') :: μ)) : AskG S (sgP args m) ds ((p, .lst l) :: μ) Q :=
  ⟨[(p, .lst l)], μ, .l (Split.none μ), a, p, l, k, hd, rfl, hl, h, q⟩
end
theorem ask_t {S : Sg} {a : Addr} {l : List D} {n : Int} {μ : Mem} {Q : QD} {R : Int → Prop} (hl : PoolOk l) (h : (0 < n ∧ n < 2 ^ 200) ∧ ∀ r, 0 ≤ r → r < n → R r) (q : ∀ r l', PoolOk l' → R r → Q (.int r) ((a, .lst l') :: μ)) : AskG S sg_take [.ref a, .int n] ((a, .lst l) :: μ) Q :=
  ask_take hl h.1 fun r l' r1 r2 hl' => q r l' hl' (h.2 r r1 r2)
def drw (n : Int) (R : Int → Prop) : Prop := (0 < n ∧ n < 2 ^ 200) ∧ ∀ r, 0 ≤ r → r < n → R r
theorem sub_vis0 {N H : Hp} {μ μ' : Mem} (s : μ'.Sublist μ) : Ex (vis N H (adr μ)) (vis N H (adr μ')) := fun b v e => by
  obtain ⟨h1, h2, h3⟩ := vis_in e
  exact vis_mk h3 h1 fun z => h2 ((s.map _).subset z)
theorem RelM0.drop {S : Sg0} {F N H : Hp} {μ μ' : Mem} (r : RelM0 S F N H μ) (s : μ'.Sublist μ) : RelM0 S F N H μ' :=
  ⟨r.hid, fun a h => r.dis a ((s.map _).subset h), r.ext.trans (sub_vis0 s), r.nd.sublist (s.map _), fun q h => by
    obtain ⟨u, e, m⟩ := r.mem q (s.subset h)
    exact ⟨u, e, m.ext (sub_vis0 s)⟩, r.tup⟩
section
variable {P : Program} {w : World} {K : PySem.W.Frag} {mg : Str → Option Value} {base : Heap} {S : Sg0} {k : Nat} {f : Addr} {fd : FuncData} {N ps : List Str} {x qual : Str} {params : Arguments} {body : List Stmt} {scope : Scope} {dvs : List V} {kws : List (Str × V)}
variable {A ρ : Type} [Rpd ρ] {args : A → List D}
abbrev EN (k : ρ → Prop) : EG := { nx := fun _ _ => ∃ r : ρ, (D.non = rp r) ∧ k r, rt := fun d _ => ∃ r, d = rp r ∧ k r }
theorem fundN {m : A → (ρ → Prop) → Prop} (F : FunD K x qual params body scope dvs kws f fd) (sc : FnScope N ps scope) (len : ∀ a, (args a).length = ps.length)
    (hbody : ∀ (cdv : Value) (Ar : Around) (outer : List Env) (s : Shared) (H : Hp) (E : XK) (a : A) (kk : ρ → Prop), Room k (Ar.deeper (envOfC qual scope s.heap.objs.size f cdv)) → m a kk →
      BlG (cxOf CX0 P w K mg base N qual scope f cdv Ar outer s H E).nox S.nx body (startG N (args a)) [] (EN kk)) :
    FnOk P w K mg base CX0 (k + 1) f fd ps (spG S (sgN args m)) := by
  refine F.ok sc (fun vs H Q E h => ?_) (fun cdv A outer s H vs Q E hr h => ?_)
  · obtain ⟨_, _, ds, μ, _, rv, a, kk, rfl, _⟩ := h
    rw [rv.length]
    exact len a
  · obtain ⟨F0, N0, ds, μ, r, rv, a, kk, rfl, rfl, hm, q0⟩ := h
    refine ⟨_, PSs.nox pss_ex, ⟨fun pins s' I => ?_⟩⟩
    refine thn (hbody cdv A outer s H E a kk hr hm F0 N0 (L2.start N vs) H ⟨r, nx_iv⟩ (start_rel rv) pins s' I) fun fl s2 q => ?_
    cases fl with
    | next =>
      obtain ⟨σ', H', I', Γ', μ', r', rs', y, e, q⟩ := q
      exact ⟨σ', H', I', q0 y q .non H' (r'.toRelM0.drop (List.nil_sublist _)) (e ▸ .non)⟩
    | ret u =>
      obtain ⟨v, σ', H', I', rv', d', μ', r', rd, y, rfl, q⟩ := q
      exact ⟨v, σ', H', I', rv', q0 y q v H' (r'.toRelM0.drop (List.nil_sublist _)) (rd.ext (sub_vis0 (List.nil_sublist _)))⟩
    | brk => obtain ⟨σ', H', I', Γ', μ', r', rs', q⟩ := q; exact q.elim
    | cont => obtain ⟨σ', H', I', Γ', μ', r', rs', q⟩ := q; exact q.elim
abbrev EP' (p : Addr) (k : ρ → Prop) : EG := { nx := fun _ μ' => ∃ (r : ρ) (l : List D) (μ0 : Mem), (D.non = rp r) ∧ μ' = (p, .lst l) :: μ0 ∧ PoolOk l ∧ k r, rt := fun d μ' => ∃ (r : ρ) (l : List D) (μ0 : Mem), d = rp r ∧ μ' = (p, .lst l) :: μ0 ∧ PoolOk l ∧ k r }
end
end GL
namespace GL
open PySem L2 PySem.Spec PyProof.Rows
def notStar : Expr → Bool | .Starred _ _ => false | _ => true
theorem star_cs {e : Expr} {es : List Expr} {env : Env} (h : notStar e = true) : starEach (e :: es) env = (false, eval e env) :: starEach es env := by
  cases e <;> first | rfl | exact nomatch h
theorem plain_ns {env : Env} {pos : Pos} : ∀ {es : List Expr}, es.all notStar = true → (backTo pos (starEach es env)).any (·.1) = false
  | [], _ => rfl
  | e :: es, h => by
    rw [List.all_cons, Bool.and_eq_true] at h
    rw [star_cs h.1]
    have ih := plain_ns (env := env) (pos := pos) h.2
    unfold backTo at ih ⊢
    rw [List.map_cons, List.any_cons, ih]
    rfl
section
variable {X : Cx} {S : Sg} {a b c e o : Expr} {es : List Expr} {st : Stmt} {sts body orelse : List Stmt} {Γ : Gm} {μ : Mem} {Q : QD} {x : Str} {pos p : Pos} {d : D} {E : EG} {tg iter : Expr}
theorem ea_c {Q : List D → Mem → Prop} (h : EvG X S e Γ μ fun d μ1 => EvA X S es Γ μ1 fun ds μ2 => Q (d :: ds) μ2) (hs : notStar e = true := by rfl) : EvA X S (e :: es) Γ μ Q := ea_cons h (star_cs hs)
theorem cB {id : String} (hm : X.mg x = none) (hv : bootBuiltins x = some (.builtin id)) (h : EvA X S (e :: es) Γ μ fun ds μ1 => CallG X S (.builtin id) ds μ1 Q) (hg : Gl X x := by rfl) (hn : x ≠ "__name__" := by decide) (hdb : (x == ("__debug__" : Str)) = false := by decide)
    (h1 : notStar e = true := by rfl) (h2 : es.all notStar = true := by rfl) : EvG X S (.Call (.Name x p) (e :: es) [] pos) Γ μ Q := ev_callB hg hm hv h hn hdb (star_cs h1) (plain_ns h2)
section
variable {CX : CXT} {k : Nat} {f : Addr} {fd : FuncData} {ps : List Str} {sg : SpG}
theorem cF (hm' : MonoG sg) (F : FnOk X.prog X.w X.K X.mg X.base CX k f fd ps (spG S sg)) (hr : Room k X.A) (hm : X.mg x = some (.ref f)) (hk : PySem.W.keepIn X.K (.ref f) = true) (hb : Binds X.K fd ps []) (hx : Passes CX X S.wx)
    (h : EvA X S (e :: es) Γ μ fun ds μ1 => AskG S sg ds μ1 Q) (hg : Gl X x := by rfl) (hdb : (x == ("__debug__" : Str)) = false := by decide) (h1 : notStar e = true := by rfl) (h2 : es.all notStar = true := by rfl) : EvG X S (.Call (.Name x p) (e :: es) [] pos) Γ μ Q :=
  ev_call hm' F hr hg hm hk hb .nil (fun _ => .nil) hx (by simpa only [List.append_nil] using h) hdb (star_cs h1) (plain_ns h2)
theorem cC {C : Addr} (hm' : MonoG sg) (M : Mk X.K C f) (F : FnOk X.prog X.w X.K X.mg X.base CX k f fd ps (spG S sg)) (hr : Room (k + 1) X.A) (hm : X.mg x = some (.ref C)) (hb : Binds X.K fd ps []) (hx : Passes CX X S.wx)
    (h : EvA X S (e :: es) Γ μ fun ds μ1 => NewG S C sg ds μ1 (FrzQ S.toSg0 Q)) (hg : Gl X x := by rfl) (hdb : (x == ("__debug__" : Str)) = false := by decide) (h1 : notStar e = true := by rfl) (h2 : es.all notStar = true := by rfl) : EvG X S (.Call (.Name x p) (e :: es) [] pos) Γ μ Q :=
  ev_frz <| ev_make hm' M F hr hg hm hb .nil (fun _ => .nil) hx (by simpa only [List.append_nil] using h) hdb (star_cs h1) (plain_ns h2)
end
theorem asgF (i : Nat) {pos' : Pos} (nd : X.N.Nodup) (h : EvG X S e Γ μ fun d μ1 => BlG X S sts (Γ.set i (some d)) μ1 E) (hi : X.N[i]? = some x := by rfl) (hx : Loc X.env.scope x := by first | exact Or.inl rfl | exact Or.inr rfl)
    (hs : notComp e = true := by rfl) (hf : X.fn x = true ∨ X.env.scope.names.lookup x = some .local := by first | exact .inl rfl | exact .inr rfl) : BlG X S (.Assign [.Name x pos'] e pos :: sts) Γ μ E := bl_cons (st_set nd hi hx h (swaps_no hs) hf)
theorem exF (h : EvG X S e Γ μ fun _ μ' => BlG X S sts Γ μ' E) (hs : notComp e = true := by rfl) : BlG X S (.Expr e pos :: sts) Γ μ E := exb h (swaps_no hs)
theorem ixF (h : EvG X S a Γ μ fun d1 μ1 => EvG X S b Γ μ1 fun d2 μ2 => IxG X S d1 d2 μ2 Q) (hs : PlainIx b := by exact fun _ _ => rfl) : EvG X S (.Subscript a b pos) Γ μ Q := ev_ix hs h
theorem xb {P : Bool → Prop} {c : Bool} (h : P c) : ∃ c', D.bl c = .bl c' ∧ P c' := ⟨c, rfl, h⟩
theorem xi {P : Int → Prop} {c : Int} (h : P c) : ∃ c', D.int c = .int c' ∧ P c' := ⟨c, rfl, h⟩
theorem tb {c : Bool} {A B : Prop} (h1 : c = true → A) (h2 : c = false → B) : (c = true → A) ∧ (c = false → B) := ⟨h1, h2⟩
end
theorem atI_map {α β : Type} (f : α → β) (l : List α) (i : Int) : atI (l.map f) i = (atI l i).map f := by
  unfold atI
  rw [List.length_map]
  cases ixN l.length i with
  | none => rfl
  | some j => exact List.getElem?_map
def IsL {α : Type} [Rpd α] (μ : Mem) (d : D) (l : List α) : Prop := Drf μ d (l.map rp)
theorem IsL.val {α : Type} [Rpd α] {μ : Mem} (l : List α) : IsL μ (rp l) l := Drf.val _
theorem IsL.mem {α : Type} [Rpd α] {μ : Mem} {a : Addr} {l : List α} (h : (a, M.lst (l.map rp)) ∈ μ) : IsL μ (.ref a) l := Drf.ref h
def inb {α : Type} [DecidableEq α] (x : α) (l : List α) : Bool := decide (x ∈ l)
section
variable {X : Cx} {S : Sg} {Γ : Gm} {μ : Mem} {Q : QD} {d e : D}
section
variable {α β : Type} [DecidableEq α] [Dt α] [DecidableEq β] [Dt β]
theorem op_eq (x y : α) (hu : X.A.units + 65 < cLine) (h1 : Rsv μ d (rp x)) (h2 : Rsv μ e (rp y)) (k : Q (.bl (decide (x = y))) μ) (hK : X.K = S.K := by rfl) (n1 : Dt.dep α ≤ 60 := by decide) : OpG X S (compareOp .Eq) d e μ Q := by
  refine og_eqD hK hu h1 h2 (Dt.dok x) (Dt.dok y) n1 n1 ?_
  rw [Dt.deq]
  exact k
theorem op_ne (x y : α) (hu : X.A.units + 65 < cLine) (h1 : Rsv μ d (rp x)) (h2 : Rsv μ e (rp y)) (k : Q (.bl (!decide (x = y))) μ) (hK : X.K = S.K := by rfl) (n1 : Dt.dep α ≤ 60 := by decide) : OpG X S (compareOp .NotEq) d e μ Q := by
  refine og_neD hK hu h1 h2 (Dt.dok x) (Dt.dok y) n1 n1 ?_
  rw [Dt.deq]
  exact k
theorem inL_t (x : α) : ∀ l : List α, D.inL (rp x) (l.map rp) = decide (x ∈ l)
  | [] => by simp [D.inL]
  | y :: l => by
    have ih := inL_t x l
    unfold D.inL at ih ⊢
    rw [List.map_cons, List.any_cons, ih, Dt.deq]
    by_cases h : y = x
    · rw [decide_eq_true h, Bool.true_or, decide_eq_true (h ▸ List.mem_cons_self)]
    · rw [decide_eq_false h, Bool.false_or]
      refine decide_eq_decide.mpr ⟨fun z => List.mem_cons_of_mem _ z, fun z => ?_⟩
      rcases List.mem_cons.mp z with z | z
      · exact absurd z.symm h
      · exact z
theorem op_ni (x : α) (l : List α) (hu : X.A.units + 65 < cLine) (h1 : Rsv μ d (rp x)) (h2 : IsL μ e l) (k : Q (.bl (!inb x l)) μ) (hK : X.K = S.K := by rfl) (n1 : Dt.dep α ≤ 50 := by decide) : OpG X S (compareOp .NotIn) d e μ Q := by
  refine og_niL hK hu h1 h2 (Dt.dok x) (okA_map (fun x => Dt.dok x) l) n1 ?_
  rw [inL_t]
  exact k
end
section
variable {α β : Type} [Rpd α] [Rpd β]
theorem op_addL (l k : List α) (h1 : IsL μ d l) (h2 : IsL μ e k) (hz : l.length + k.length ≤ 16777216) (q : Q (rp (l ++ k)) μ) : OpG X S (binaryOp .Add) d e μ Q := by
  refine og_addL h1 h2 (by rw [List.length_map, List.length_map]; exact hz) ?_
  rw [← List.map_append]
  exact q
theorem ix_l (l : List α) {i : Int} {y : α} (h : IsL μ d l) (hi : atI l i = some y) (k : Q (rp y) μ) : IxG X S d (.int i) μ Q := ig_l h (by rw [atI_map, hi]; rfl) k
def cutL (l : List α) (lo hi : Option Int) : List α := (l.drop (HT.sIx l.length 0 lo)).take (HT.sIx l.length l.length hi - HT.sIx l.length 0 lo)
end
end
end GL
namespace GL
open PySem L2 PySem.Spec PyProof.Rows
def forI {α σ : Type} (xs : List α) (s0 : σ) (step : α → σ → (σ → Prop) → Prop) (K : σ → Prop) : Prop :=
  ∃ I : Nat → σ → Prop, I 0 s0 ∧ (∀ i x s, xs[i]? = some x → I i s → step x s (I (i + 1))) ∧ ∀ s, I xs.length s → K s
def lcI {α β : Type} (xs : List α) (step : α → (Option β → Prop) → Prop) (K : List β → Prop) : Prop :=
  ∃ I : Nat → List β → Prop, I 0 [] ∧ (∀ i x acc, xs[i]? = some x → I i acc → acc.length < 16777216 ∧ step x (fun o => I (i + 1) (acc ++ o.toList))) ∧ ∀ acc, I xs.length acc → K acc
section
variable {X : Cx} {S : Sg} {Γ : Gm} {μ : Mem} {E : EG} {tg elt : Expr} {ifs : List Expr} {body sts : List Stmt} {scope : Scope}
abbrev RFor (X : Cx) (S : Sg) (tg : Expr) (body sts : List Stmt) (Γ : Gm) (E : EG) : RI := fun Km ds μ1 => ∃ I : Nat → Gm → Mem → Prop, I 0 Γ μ1 ∧ (∀ i Γ' μ', I i Γ' μ' → Km μ') ∧
      (∀ i d Γ' μ', ds[i]? = some d → I i Γ' μ' → TgG X S (List.range 64) tg d Γ' μ' fun Γ2 μ2 => BlG X S body Γ2 μ2 { nx := I (i + 1), ct := I (i + 1), bk := fun Γ' μ' => BlG X S sts Γ' μ' E, rt := E.rt }) ∧
      (∀ Γ' μ', I ds.length Γ' μ' → BlG X S sts Γ' μ' E)
abbrev ETurn {σ : Type} (R : σ → Gm → Mem → Prop) (J : σ → Prop) (X : Cx) (S : Sg) (sts : List Stmt) (E : EG) : EG :=
  { nx := fun Γ μ => ∃ s, J s ∧ R s Γ μ, ct := fun Γ μ => ∃ s, J s ∧ R s Γ μ, bk := fun Γ' μ' => BlG X S sts Γ' μ' E, rt := E.rt }
theorem forQ {α σ : Type} {f : α → D} {xs : List α} {s0 : σ} {step : α → σ → (σ → Prop) → Prop} {K : σ → Prop} {Km : Mem → Prop} (h : forI xs s0 step K) (R : σ → Gm → Mem → Prop) (h0 : R s0 Γ μ) (km : ∀ s Γ' μ', R s Γ' μ' → Km μ')
    (hstep : ∀ x s J Γ' μ', x ∈ xs → R s Γ' μ' → step x s J → TgG X S (List.range 64) tg (f x) Γ' μ' fun Γ2 μ2 => BlG X S body Γ2 μ2 (ETurn R J X S sts E))
    (hend : ∀ s Γ' μ', R s Γ' μ' → K s → BlG X S sts Γ' μ' E) : RFor X S tg body sts Γ E Km (xs.map f) μ := by
  obtain ⟨I, i0, hs, hk⟩ := h
  refine ⟨fun i Γ' μ' => ∃ s, I i s ∧ R s Γ' μ', ⟨s0, i0, h0⟩, fun i Γ' μ' ⟨s, _, r⟩ => km s Γ' μ' r, ?_, ?_⟩
  · rintro i d Γ' μ' hd ⟨s, hi, r⟩
    obtain ⟨x, hx, rfl⟩ := map_at hd
    exact hstep x s _ Γ' μ' (List.mem_of_getElem? hx) r (hs i x s hx hi)
  · rintro Γ' μ' ⟨s, hi, r⟩
    rw [List.length_map] at hi
    exact hend s Γ' μ' r (hk s hi)
abbrev RLc (X : Cx) (S : Sg) (tg elt : Expr) (ifs : List Expr) (scope : Scope) (vs : List Nat) (Γ : Gm) (Q : List D → Mem → Prop) : RI := fun Km ds μ1 => LcG X S tg elt ifs scope vs Γ Km ds μ1 Q
abbrev LcStep (X : Cx) (S : Sg) (tg elt : Expr) (ifs : List Expr) (scope : Scope) (vs : List Nat) (Γ : Gm) (k : Bk) (d : D) (μ' : Mem) (T : Bool → Mem → Prop) (W : D → Mem → Prop) : Prop :=
  TgG (k.cx X scope) S vs tg d (wipeG Γ vs) μ' fun Γ2 μ2 => ∀ k : Bk, TsG (k.cx X scope) S ifs Γ2 μ2 fun b μ3 => (b = true → ∀ k : Bk, EvG (k.cx X scope) S elt Γ2 μ3 W) ∧ (b = false → T b μ3)
theorem lcQ {α β : Type} [Rpd β] {f : α → D} {xs : List α} {step : α → (Option β → Prop) → Prop} {K : List β → Prop} {Km : Mem → Prop} {vs : List Nat} {Q : List D → Mem → Prop} (h : lcI xs step K) (R : Mem → Prop) (h0 : R μ) (km : ∀ μ', R μ' → Km μ')
    (hstep : ∀ x J μ', x ∈ xs → R μ' → step x J → ∀ k : Bk, LcStep X S tg elt ifs scope vs Γ k (f x) μ' (fun _ μ3 => J none ∧ R μ3) (fun y μ4 => ∃ z : β, y = rp z ∧ J (some z) ∧ R μ4))
    (hend : ∀ acc μ', R μ' → K acc → Q (acc.map rp) μ') : RLc X S tg elt ifs scope vs Γ Q Km (xs.map f) μ := by
  obtain ⟨I, i0, hs, hk⟩ := h
  refine ⟨fun i acc μ' => ∃ ys : List β, acc = ys.map rp ∧ I i ys ∧ R μ', ⟨[], rfl, i0, h0⟩, fun i acc μ' ⟨_, _, _, r⟩ => km μ' r, ?_, ?_⟩
  · rintro i d acc μ' hd ⟨ys, rfl, hi, r⟩ k
    obtain ⟨x, hx, rfl⟩ := map_at hd
    obtain ⟨hz, h1⟩ := hs i x ys hx hi
    intro F N σ H v r1 rs rv
    refine (hstep x _ μ' (List.mem_of_getElem? hx) r h1 k F N σ H v r1 rs rv).mono fun σ' H' ⟨w, Γ2, μ2, r2, rs2, q⟩ => ⟨w, Γ2, μ2, r2, rs2, fun k F N σ H r rs => ?_⟩
    obtain ⟨t, ht, q⟩ := q k F N σ H r rs
    refine ⟨_, pts_ex, t, _, ht, q, fun b H' ⟨μ3, r3, q1, q2⟩ => ⟨μ3, r3, fun hb k => (q1 hb k).mono fun y μ4 ⟨z, e, hj, r4⟩ => ⟨by rw [List.length_map]; exact hz, ys ++ [z], by rw [List.map_append, e]; rfl, hj, r4⟩, fun hb => ?_⟩⟩
    obtain ⟨hj, r4⟩ := q2 hb
    exact ⟨ys, rfl, by simpa using hj, r4⟩
  · rintro acc μ' ⟨ys, rfl, hi, r⟩
    rw [List.length_map] at hi
    exact hend ys μ' r (hk ys hi)
end
end GL
namespace GL
open PySem L2 PySem.Spec PyProof.Rows
section
variable {X : Cx} {S : Sg} {Γ : Gm} {μ : Mem} {Q : QD} {tg : Expr} {R : RI} {a b c e : Expr} {es rest : List Expr} {T : Bool → Mem → Prop} {pos p : Pos} {x : Str}
section
variable {α : Type} [Rpd α]
end
theorem rng0 (n : Nat) : rng 0 n = (List.range n).map fun i : Nat => D.int (i : Int) := by
  unfold rng
  refine List.map_congr_left fun i _ => ?_
  rw [Int.zero_add]
theorem ir1 (hm : X.mg "range" = none) (h : EvA X S [a] Γ μ fun ds μ1 => ∃ j : Int, ds = [.int j] ∧ (-(2 ^ 62) ≤ j ∧ j < 2 ^ 62) ∧ R (fun _ => True) ((List.range j.toNat).map fun i : Nat => D.int (i : Int)) μ1) (hg : Gl X "range" := by rfl) (hs : notStar a = true := by rfl) :
    IterG X S tg (.Call (.Name "range" p) [a] [] pos) Γ μ R := ig_range1 hg hm ((fun F N σ H r rs => (h F N σ H r rs).mono fun vs H' ⟨ds, μ', r', ra, j, e1, e2, q⟩ => ⟨ds, μ', r', ra, j, e1, e2, by rw [rng0]; exact q⟩)) (star_cs hs)
theorem et_cut {T' : Bool → Mem → Prop} (U : Bool → Prop) (R : Mem → Prop) (h : EvT X S e Γ μ fun b μ1 => U b ∧ R μ1) (k : ∀ b μ1, U b → R μ1 → T' b μ1) : EvT X S e Γ μ T' := fun F N σ H r rs =>
  (h F N σ H r rs).mono fun _ _ ⟨μ', r', q1, q2⟩ => ⟨μ', r', k _ _ q1 q2⟩
end
section
variable {X : Cx} {S : Sg} {Γ : Gm} {μ : Mem} {E : EG} {sts : List Stmt} {o e i : Expr} {pos apos cpos : Pos} {α : Type} [Rpd α]
theorem appF {a : Addr} {l0 : List D} (ho : ∀ {Q : QD}, Q (.ref a) μ → EvG X S o Γ μ Q) (hm : (a, M.lst l0) ∈ μ)
    (he : EvG X S e Γ μ fun d μ2 => ∃ (l : List α) (y : α) (μ3 : Mem), d = rp y ∧ l.length < 16777216 ∧ Upd a (.lst (l.map rp)) (.lst ((l ++ [y]).map rp)) μ2 μ3 ∧ BlG X S sts Γ μ3 E)
    (hbase : attributeBase o "append" X.env (eval o X.env) = eval o X.env := by rfl)
    (hs : notStar e = true := by rfl) (hline : (apos.endLine == cpos.line) = true := by rfl) : BlG X S (.Expr (.Call (.Attribute o "append" apos) [e] [] cpos) pos :: sts) Γ μ E := by
  refine exF <| ev_app (ho ⟨a, rfl, ⟨_, hm⟩, ea_c ?_ hs⟩) hbase (by rw [star_cs hs]; rfl) hline (star_cs hs) rfl
  refine he.mono fun d μ2 ⟨l, y, μ3, h1, h2, h3, h4⟩ => ea_nil ⟨d, l.map rp, μ3, rfl, ?_, by rw [List.length_map]; exact h2, h4⟩
  rw [h1, show l.map rp ++ [rp y] = (l ++ [y]).map rp by rw [List.map_append]; rfl]
  exact h3
end
section
variable {A ρ : Type} [Rpd ρ]
def sgF (args : A → List D) (Pre : A → Prop) (F : A → ρ) : SpG := fun ds μ Q _ => ∃ a, ds = args a ∧ μ = [] ∧ Pre a ∧ Q (rp (F a)) []
end
end GL
namespace GL
open PySem L2 PySem.Spec PyProof.Rows
theorem swaps_yes {elt : Expr} {gens : List Comprehension} {scope : Scope} {pos py : Pos} {y : Str} {env : Env} {line : Nat} (hb : env.blockKind = .function) (hy : env.kindOf y = some .local) (hl : py.line = pos.line)
    (hn : (scope.names.any fun x => x.1 == y && (x.2 == .local || x.2 == .cell)) = false) : swapsWith (.ListComp elt gens scope pos) (some (.Name y py)) line env = pure true := by
  have h1 : (env.blockKind == ScopeKind.function) = true := by rw [hb]; rfl
  have h2 : (env.kindOf y == some NameKind.local) = true := by rw [hy]; rfl
  have h3 : (py.line == pos.line) = true := by rw [hl]; simp
  show (pure (env.blockKind == ScopeKind.function && env.kindOf y == some NameKind.local && py.line == pos.line && !(scope.names.any fun x => x.1 == y && (x.2 == .local || x.2 == .cell))) : Sem Bool) = pure true
  rw [h1, h2, h3, hn]
  rfl
section
variable {X : Cx} {S : Sg} {e : Expr} {sts : List Stmt} {Γ : Gm} {μ : Mem} {E : EG} {x : Str} {pos : Pos}
end
theorem isl {α : Type} [Rpd α] {μ : Mem} {d : D} {l : List α} (h : d = rp l) : IsL μ d l := by
  rw [h]
  exact .val _
def fst {α : Type} [DecidableEq α] (x : α) : List α → Nat
  | [] => 0
  | y :: l => if y = x then 0 else fst x l + 1
section
variable {α : Type} [DecidableEq α]
variable [Dt α] {X : Cx} {S : Sg} {μ : Mem} {Q : QD} {d e : D}
end
end GL
namespace GL
open PySem L2 PySem.Spec PyProof.Rows
theorem str_app_len (x y : Str) : (x ++ y).length = x.length + y.length := by
  rw [cs_len, cs_len, cs_len, cs_app, List.length_append]
section
variable {X : Cx} {σ : L2.St} {H : Hp}
def FJ (X : Cx) (σ : L2.St) (H : Hp) (es : List Expr) (n : Nat) : Prop := ∃ ts, PJ X es ts ∧ ∀ acc : Str, acc.length + n ≤ sizeLine → tJs ts acc σ H (fun _ H1 => H1 = H)
theorem fj_nil : FJ X σ H [] 0 := ⟨[], .nil, fun _ _ => rfl⟩
theorem fj_c {x : Str} {j} {pos : Pos} {es : List Expr} {n : Nat} (h : FJ X σ H es n) (hz : Nat.ble x.length 1000 = true := by rfl) : FJ X σ H (.Constant (.str x) j pos :: es) (1000 + n) := by
  obtain ⟨ts, h1, h2⟩ := h
  have hz := Nat.le_of_ble_eq_true hz
  refine ⟨_, .cons pe_str h1, fun acc ha => ⟨x, rfl, ?_, h2 _ ?_⟩⟩ <;> rw [str_app_len] <;> omega
theorem fj_v {x : Str} {p pos : Pos} {es : List Expr} {n : Nat} (i : Nat) {z : Str} (hσ : σ[i]? = some (some (.str z))) (hz : z.length ≤ 10000) (h : FJ X σ H es n) (hN : X.N[i]? = some x := by rfl) (hv : Vis X.env.scope x := by exact Or.inl rfl) (hd : (x == ("__debug__" : Str)) = false := by decide) (hcd : (x == ("__classdict__" : Str)) = false := by decide) :
    FJ X σ H (.FormattedValue (.Name x p) (-1) none pos :: es) (10000 + n) := by
  obtain ⟨ts, h1, h2⟩ := h
  refine ⟨_, .cons (pe_fmt (pe_var hN hv hd hcd)) h1, fun acc ha => ⟨_, hσ, .inl ⟨z, rfl, ?_, z, rfl, ?_, h2 _ ?_⟩⟩⟩
  · rw [sizeLine_eq]
    omega
  · rw [str_app_len]
    omega
  · rw [str_app_len]
    omega
theorem ex_fj {v1 v2 : Expr} {rest : List Expr} {n : Nat} {pos : Pos} (h : FJ X σ H (v1 :: v2 :: rest) n) (hn : Nat.ble n 100000 = true := by rfl) : EXt X (.JoinedStr (v1 :: v2 :: rest) pos) σ H (fun _ H1 => H1 = H) := by
  obtain ⟨ts, h1, h2⟩ := h
  refine ex_of (pe_joined h1) (h2 Str.empty ?_)
  have := Nat.le_of_ble_eq_true hn
  rw [sizeLine_eq]
  show 0 + n ≤ _
  omega
end
theorem spEx_end2 {H : Hp} {a d C : Addr} {f g : Str} {v u : V} (hne : d ≠ a) :
    upd (upd (upd H d (exd d [(f, v)])) a (exo a C (some d))) d (exd d [(g, u), (f, v)]) a = some (exo a C (some d)) ∧ upd (upd (upd H d (exd d [(f, v)])) a (exo a C (some d))) d (exd d [(g, u), (f, v)]) d = some (exd d [(g, u), (f, v)]) ∧ ∀ b, b ≠ a → b ≠ d → upd (upd (upd H d (exd d [(f, v)])) a (exo a C (some d))) d (exd d [(g, u), (f, v)]) b = H b :=
  ⟨by rw [upd_ne hne.symm, upd_same], upd_same, fun b h1 h2 => by rw [upd_ne h2, upd_ne h1, upd_ne h2]⟩
theorem spEx_end3 {H : Hp} {a d C : Addr} {f g h : Str} {v u w : V} (hne : d ≠ a) :
    upd (upd (upd (upd H d (exd d [(f, v)])) a (exo a C (some d))) d (exd d [(g, u), (f, v)])) d (exd d [(h, w), (g, u), (f, v)]) a = some (exo a C (some d)) ∧ upd (upd (upd (upd H d (exd d [(f, v)])) a (exo a C (some d))) d (exd d [(g, u), (f, v)])) d (exd d [(h, w), (g, u), (f, v)]) d = some (exd d [(h, w), (g, u), (f, v)]) ∧ ∀ b, b ≠ a → b ≠ d → upd (upd (upd (upd H d (exd d [(f, v)])) a (exo a C (some d))) d (exd d [(g, u), (f, v)])) d (exd d [(h, w), (g, u), (f, v)]) b = H b :=
  ⟨by rw [upd_ne hne.symm, upd_ne hne.symm, upd_same], upd_same, fun b h1 h2 => by rw [upd_ne h2, upd_ne h2, upd_ne h1, upd_ne h2]⟩
theorem mid2 {H : Hp} {a d C : Addr} {f : Str} {v : V} (hne : d ≠ a) : upd (upd H d (exd d [(f, v)])) a (exo a C (some d)) a = some (exo a C (some d)) ∧ upd (upd H d (exd d [(f, v)])) a (exo a C (some d)) d = some (exd d [(f, v)]) := ⟨upd_same, by rw [upd_ne hne, upd_same]⟩
theorem mid3 {H : Hp} {a d C : Addr} {f g : Str} {v u : V} (hne : d ≠ a) : upd (upd (upd H d (exd d [(f, v)])) a (exo a C (some d))) d (exd d [(g, u), (f, v)]) a = some (exo a C (some d)) ∧ upd (upd (upd H d (exd d [(f, v)])) a (exo a C (some d))) d (exd d [(g, u), (f, v)]) d = some (exd d [(g, u), (f, v)]) := ⟨by rw [upd_ne hne.symm, upd_same], upd_same⟩
theorem tx0 (x : Nm) : ∃ z : Str, (rp x : D) = .str z ∧ z.length ≤ 10000 := ⟨x.1, rfl, Nat.le_trans x.2.2 (by decide)⟩
theorem tx1 (x : Nm) : ∀ d ∈ ([rp x] : List D), ∃ z : Str, d = .str z ∧ z.length ≤ 10000 := fun d h => by
  cases List.mem_singleton.mp h
  exact tx0 x
theorem tx2 (x y : Nm) : ∀ d ∈ ([rp x, rp y] : List D), ∃ z : Str, d = .str z ∧ z.length ≤ 10000 := fun d h => by
  rcases List.mem_cons.mp h with rfl | h
  · exact tx0 x
  · exact tx1 y d h
theorem tx3 (x y z : Nm) : ∀ d ∈ ([rp x, rp y, rp z] : List D), ∃ z : Str, d = .str z ∧ z.length ≤ 10000 := fun d h => by
  rcases List.mem_cons.mp h with rfl | h
  · exact tx0 x
  · exact tx2 y z d h
instance {α β : Type} [Rpd α] [Rpd β] : Rpd (α ⊕ β) := ⟨fun x => match x with | .inl a => rp a | .inr b => rp b⟩
theorem kit_type {K : PySem.W.Frag} {C : Addr} {T : String} {b : Bool} (h1 : PySem.W.kitMeta T = true) (h : PySem.W.subIn K (.ref C) (.type T) = some b) : PySem.W.kitOne K (.ref C) (.type T) = some b := by
  unfold PySem.W.kitOne PySem.W.kitCls
  rw [if_neg (by simp)]
  show (if PySem.W.kitMeta T = true then PySem.W.subIn K (.ref C) (.type T) else none) = _
  rw [if_pos h1, h]
structure Sq (α : Type) where
  tup : Bool
  l : List α
instance {α : Type} [Rpd α] : Rpd (Sq α) := ⟨fun x => match x.tup with | true => .tup (x.l.map rp) | false => .lst (x.l.map rp)⟩
section
variable {X : Cx} {S : Sg} {μ : Mem} {tg : Expr} {R : RI} {α : Type} [Rpd α]
theorem it_S (xs : Sq α) (k : R (fun _ => True) (xs.l.map rp) μ) (hK : X.K = S.K := by rfl) : IterV X S tg (rp xs) μ R := by
  obtain ⟨b, l⟩ := xs
  cases b with
  | true => exact iv_tup hK k
  | false => exact iv_lst hK k
end
section
variable {A V : Type}
def sgC (C : Addr) (args : A → List D) (flds : V → List (Str × D)) (m : A → (V → Prop) → KX → Prop) : SpG := fun ds μ Q E => ∃ x a k kx, ds = .ref x :: args a ∧ μ = [(x, .ins C [])] ∧ m a k kx ∧ (∀ v, k v → Q .non [(x, .ins C (flds v))]) ∧ ∀ c fs, kx c fs → Plain fs → E c fs []
variable {C : Addr} {args : A → List D} {flds : V → List (Str × D)}
theorem sgC_mono {m : A → (V → Prop) → KX → Prop} : MonoG (sgC C args flds m) := fun _ _ _ _ _ _ ⟨x, a, k, kx, h1, h2, h3, q, e⟩ w we => ⟨x, a, k, kx, h1, h2, h3, fun r hr => w _ _ (q r hr), fun c fs h hp => we _ _ _ (e c fs h hp)⟩
theorem new_c {S : Sg} {μ : Mem} {Q : QD} {ds : List D} [Rpd V] {m : A → (V → Prop) → KX → Prop} {k : V → Prop} {kx : KX} (c : Nat) (lf : V → List D) (a : A) (hd : ds = args a) (h : m a k kx) (q : ∀ v, k v → Q (rp v) μ) (qe : ∀ c fs, kx c fs → Plain fs → S.qx c fs μ)
    (hC : C = S.cls c := by rfl) (h1 : ∀ v, flds v = (S.nms c).zip (lf v) := by intro _; rfl) (h2 : ∀ v, (S.nms c).length = (lf v).length := by intro _; rfl) (h3 : ∀ v, rp v = .obj c (lf v) := by intro _; rfl) : NewG S C (sgC C args flds m) ds μ (FrzQ S.toSg0 Q) :=
  ⟨[], μ, Split.none μ, fun x _ => ⟨x, a, k, kx, by rw [hd], rfl, h, fun v hv => ⟨rfl, x, rfl, μ, .inr ⟨c, lf v, by rw [h1, hC]; exact .here, h2 v, by rw [← h3]; exact q v hv⟩⟩, fun c fs hk hp => qe c fs hk hp⟩⟩
end
section
variable {P : Program} {w : World} {K : PySem.W.Frag} {mg : Str → Option Value} {base : Heap} {S : Sg0} {k : Nat} {f : Addr} {fd : FuncData} {N ps : List Str} {x qual : Str} {params : Arguments} {body : List Stmt} {scope : Scope} {dvs : List V} {kws : List (Str × V)}
variable {A W : Type} {args : A → List D} {flds : W → List (Str × D)} {C : Addr}
abbrev EC (C : Addr) (x : Addr) (flds : W → List (Str × D)) (k : W → Prop) : EG := { nx := fun _ μ' => ∃ (r : W) (μ0 : Mem), μ' = (x, .ins C (flds r)) :: μ0 ∧ k r, rt := fun _ _ => False }
theorem one_sub {p : Addr × M} {μ0 : Mem} : List.Sublist [p] (p :: μ0) := List.Sublist.cons_cons _ (List.nil_sublist _)
theorem fundC {m : A → (W → Prop) → KX → Prop} (F : FunD K x qual params body scope dvs kws f fd) (sc : FnScope N ps scope) (len : ∀ a, (args a).length + 1 = ps.length)
    (hbody : ∀ (cdv : Value) (Ar : Around) (outer : List Env) (s : Shared) (H : Hp) (E : XK) (a : A) (z : Addr) (kk : W → Prop) (kx : KX), Room k (Ar.deeper (envOfC qual scope s.heap.objs.size f cdv)) →
      Takes (cxOf (L2.CX P w) P w K mg base N qual scope f cdv Ar outer s H E) (fun cls d _ H => E cls d H) → m a kk kx →
      BlG (cxOf (L2.CX P w) P w K mg base N qual scope f cdv Ar outer s H E) ⟨S, fun c fs _ => kx c fs ∧ Plain fs, E⟩ body (startG N (.ref z :: args a)) [(z, .ins C [])] (EC C z flds kk)) :
    FnOk P w K mg base (L2.CX P w) (k + 1) f fd ps (spG S (sgC C args flds m)) := by
  refine F.ok sc (fun vs H Q E h => ?_) (fun cdv A outer s H vs Q E hr h => ?_)
  · obtain ⟨_, _, ds, μ, _, rv, z, a, kk, kx, rfl, _⟩ := h
    rw [rv.length]
    exact len a
  · obtain ⟨F0, N0, ds, μ, r, rv, z, a, kk, kx, rfl, rfl, hm, q0, qe⟩ := h
    refine ⟨_, pss_ex, ⟨fun pins s' I => ?_⟩⟩
    have tk : Takes (cxOf (L2.CX P w) P w K mg base N qual scope f cdv A outer s H E) (fun cls d _ H => E cls d H) := takes_of rfl rfl rfl rfl
    refine thn (hbody cdv A outer s H E a z kk kx hr tk hm F0 N0 (L2.start N vs) H ⟨r, fun cls d H' ⟨c, dd, fs, gs, μ', e1, e2, hd, hl, hf, r', n1, n2, q⟩ => by
      subst e1 e2
      exact qe c gs q.1 q.2 dd fs H' (r'.drop (List.nil_sublist _)) hd hl (hf.ext (sub_vis0 (List.nil_sublist _))) n1 (fun z => nomatch z)⟩ (start_rel rv) pins s' I) fun fl s2 q => ?_
    cases fl with
    | next =>
      obtain ⟨σ', H', I', Γ', μ', r', rs', y, m0, rfl, q⟩ := q
      exact ⟨σ', H', I', q0 y q .non H' (r'.toRelM0.drop one_sub) .non⟩
    | ret u =>
      obtain ⟨v, σ', H', I', rv', d', μ', r', rd, q⟩ := q
      exact q.elim
    | brk => obtain ⟨σ', H', I', Γ', μ', r', rs', q⟩ := q; exact q.elim
    | cont => obtain ⟨σ', H', I', Γ', μ', r', rs', q⟩ := q; exact q.elim
end
section
variable {X : Cx} {S : Sg0} {Γ : Gm} {μ : Mem} {Q : QD} {E : EG} {sts : List Stmt}
theorem xcntT {A : Prop} {B : Prop} (k : A) : ∃ c, D.bl true = .bl c ∧ (c = true → A) ∧ (c = false → B) := ⟨true, rfl, fun _ => k, (fun h => by cases h)⟩
theorem pass_nx {Y : Cx} : Passes (L2.CX Y.prog Y.w) Y (fun _ _ _ => False) := fun _ _ _ _ _ _ _ ⟨_, _, _, _, _, _, _, _, _, _, _, _, z⟩ => z.elim
end
end GL
namespace GL
open PySem L2
section
variable {α β σ : Type} {xs : List α}
theorem at_lt {i : Nat} {x : α} (h : xs[i]? = some x) : i < xs.length := by
  rcases Nat.lt_or_ge i xs.length with h' | h'
  · exact h'
  · rw [List.getElem?_eq_none h'] at h; cases h
end
section
variable {α : Type} [DecidableEq α]
def onceL (l : List α) : List α := l.foldl (fun acc x => if inb x acc = true then acc else acc ++ [x]) []
end
theorem ixN_nat {n i : Nat} (h : i < n) : ixN n (i : Int) = some i := by
  unfold ixN
  rw [if_pos (by omega), if_pos (by omega)]
  simp
theorem atN {α : Type} {l : List α} {i : Nat} {x : α} (h : l[i]? = some x) : atI l (i : Int) = some x := by
  unfold atI
  rw [ixN_nat (at_lt h)]
  exact h
end GL
namespace GL
open PySem L2 PySem.Spec PyProof.Rows
inductive DrfK (μ : Mem) : D → List (Key × D) → Prop
  | val {ks : List Key} {ds : List D} : ks.length = ds.length → DrfK μ (.dK ks ds) (ks.zip ds)
  | ref {a : Addr} {kvs : List (Key × D)} : (a, M.dK kvs) ∈ μ → DrfK μ (.ref a) kvs
theorem RpA.zipK {S : Sg0} {Hv : Hp} : ∀ {ks : List Key} {vs : List V} {ds : List D}, RpA S Hv vs ds → RpK S Hv (ks.zip vs) (ks.zip ds)
  | [], _, _, _ => by simp; exact .nil
  | _ :: _, _, _, .nil => .nil
  | _ :: _, _, _, .cons r t => .cons r (RpA.zipK t)
theorem DrfK.at {S : Sg0} {F N H : Hp} {μ : Mem} {d : D} {kvs : List (Key × D)} {x : V} (h : DrfK μ d kvs) (r : RelM0 S F N H μ) (rx : Rp S (vis N H (adr μ)) x d) : ∃ a vs, x = .ref a ∧ Rd H a (.dK vs) ∧ RpK S (vis N H (adr μ)) vs kvs := by
  cases h with
  | val hl =>
    cases rx with
    | dK h1 h2 h3 => exact ⟨_, _, rfl, .inr ⟨_, vis_le _ _ h1⟩, h3.zipK⟩
  | ref hm =>
    cases rx
    obtain ⟨o, e, rm⟩ := r.find hm
    cases rm with
    | dK h => exact ⟨_, _, rfl, .inl e, h⟩
section
variable {X : Cx} {S : Sg} {o i e f : Expr} {Γ : Gm} {μ : Mem} {Q : QD} {T : Bool → Mem → Prop} {pos p1 p2 apos cpos : Pos} {d : D}
theorem RpK.isSome {S : Sg0} {Hv : Hp} {vs : List (Key × V)} {kvs : List (Key × D)} (h : RpK S Hv vs kvs) (k : Key) : (valV vs k).isSome = (valD kvs k).isSome := by
  rcases h.val k with ⟨v, d, h1, h2, _⟩ | ⟨h1, h2⟩ <;> rw [h1, h2] <;> rfl
end
section
variable {X : Cx} {S : Sg} {Γ : Gm} {μ μ' : Mem} {E : EG} {sts : List Stmt}
end
abbrev kN (x : Nm) : Key := .inr x.1
structure Dc (α : Type) where
  l : List (Nm × α)
instance {α : Type} [Rpd α] : Rpd (Dc α) := ⟨fun x => .dK (x.l.map (kN ·.1)) (x.l.map (rp ·.2))⟩
def look {α : Type} (l : List (Nm × α)) (k : Nm) : Option α := (l.find? fun p => decide (p.1 = k)).map (·.2)
def kvD {α : Type} [Rpd α] (l : List (Nm × α)) : List (Key × D) := l.map fun p => (kN p.1, rp p.2)
section
variable {α : Type} [Rpd α]
variable {X : Cx} {S : Sg} {o i e f : Expr} {Γ : Gm} {μ : Mem} {Q : QD} {T : Bool → Mem → Prop} {pos p1 p2 apos cpos : Pos} {d : D}
end
section
variable {X : Cx} {S : Sg} {e : Expr} {Γ : Gm} {μ : Mem} {R : RI} {elts : List Expr} {kk : Nat} {tpos apos cpos : Pos} {α : Type} [Rpd α]
end
end GL
namespace GL
open PySem L2 PySem.Spec PyProof.Rows
structure KindV where
  many : Bool
  order : List Nm
  leads : Dc (List Nm)
  rows : List Nm
  doors : Dc (Tu Nm × Tu Nm)
  name : Nm
abbrev kNum (m : Bool) : Nat := if m then 5 else 4
instance : Rpd KindV := ⟨fun x => .obj (kNum x.many) [rp x.order, rp x.leads, rp x.rows, rp x.doors, rp x.name]⟩
structure KAd where
  o : Addr
  d : Addr
  e : Addr
  ls : List Addr
def lsM : List Addr → List (List Nm) → Mem
  | a :: as, l :: ll => (a, .lst (l.map rp)) :: lsM as ll
  | _, _ => []
abbrev kvR (order : List Nm) (ls : List Addr) : List (Key × D) := (order.map kN).zip (ls.map D.ref)
def kindM (C x : Addr) (A : KAd) (κ : KindV) : Mem :=
  (x, .ins C [("order", .ref A.o), ("leads", .ref A.d), ("rows", rp κ.rows), ("doors", .ref A.e), ("name", rp κ.name)]) :: (A.o, .lst (κ.order.map rp)) :: (A.d, .dK (kvR κ.order A.ls)) :: (A.e, .dK (kvD κ.doors.l)) :: lsM A.ls (κ.leads.l.map (·.2))
structure KOk (κ : KindV) : Prop where
  nd : κ.order.Nodup
  le : κ.leads.l.map (·.1) = κ.order
  ro : κ.rows = κ.order
  dk : κ.doors.l.map (·.1) = κ.order
  few : κ.order.length ≤ 1000000
theorem KOk.ll {κ : KindV} (h : KOk κ) : κ.leads.l.length = κ.order.length := by
  rw [← h.le, List.length_map]
def allowF (κ : KindV) (b c : Nm) : KindV := { κ with leads := ⟨κ.leads.l.map fun p => if p.1 = b then (p.1, if c ∈ p.2 then p.2 else p.2 ++ [c]) else p⟩ }
def setF' (κ : KindV) (k : Nm) (v : Tu Nm × Tu Nm) : KindV := { κ with doors := ⟨κ.doors.l.map fun p => if p.1 = k then (p.1, v) else p⟩ }
end GL
namespace GL
open PySem L2 PySem.Spec PyProof.Rows
abbrev RDc (X : Cx) (S : Sg) (tg kx vx : Expr) (scope : Scope) (vs : List Nat) (Γ : Gm) (Q : List (Key × D) → Mem → Prop) : RI := fun Km ds μ1 => ∃ I : Nat → List (Key × D) → Mem → Prop, I 0 [] μ1 ∧ (∀ i kvs μ', I i kvs μ' → Km μ') ∧
    (∀ i d kvs μ', ds[i]? = some d → I i kvs μ' → ∀ k : Bk, TgG (k.cx X scope) S vs tg d (wipeG Γ vs) μ' fun Γ2 μ2 => ∀ k : Bk, EvG (k.cx X scope) S kx Γ2 μ2 fun y μ3 => ∀ k : Bk, EvG (k.cx X scope) S vx Γ2 μ3 fun z μ4 => ∃ key, y = kD key ∧ kvs.length < 16777216 ∧ I (i + 1) (putKD kvs key z) μ4) ∧
    (∀ kvs μ', I ds.length kvs μ' → Q kvs μ')
section
variable {X : Cx} {S : Sg} {tg iter kx vx : Expr} {scope : Scope} {own : List (Str × Nat)} {Γ : Gm} {μ : Mem} {pos : Pos}
end
end GL
namespace GL
open PySem L2 PySem.Spec PyProof.Rows PySem.W
def sumB {α β : Type} (bl br : Bool) : α ⊕ β → Bool | .inl _ => bl | .inr _ => br
section
variable {X : Cx} {S : Sg} {CX : CXT} {k : Nat} {f g C : Addr} {fd : FuncData} {ps : List Str} {sg : SpG} {Γ : Gm} {μ : Mem} {Q : QD} {d e : D}
theorem og_mulW {i j : Int} (c : CMulW i j) (k : Q (.int (i * j)) μ) : OpG X S (binaryOp .Mult) (.int i) (.int j) μ Q := fun F N H u v r ru rv => by cases ru; cases rv; exact op_of op_mulW ⟨i, j, rfl, rfl, c, _, μ, r, .int _, k⟩
def sg_law : SpG := fun ds μ Q _ => ∃ ns : List Int, ds = [.scr ns] ∧ ns.length ≤ 63 ∧ μ = [] ∧ ∀ μ', Q (.bl true) μ'
theorem law_end {b : Bool} (h : b = true) (q : ∀ μ', Q (.bl true) μ') : Q (rp b) μ := by subst h; exact q _
end
section
variable {X : Cx} {S : Sg} {tg : Expr} {elt : Expr} {ifs : List Expr} {scope : Scope} {Γ : Gm} {μ : Mem}
end
end GL
namespace GL
open PySem L2 PySem.Spec PyProof.Rows
theorem RelM0.perm {S : Sg0} {F N H : Hp} {μ ν : Mem} (r : RelM0 S F N H μ) (h : ∀ q, q ∈ ν ↔ q ∈ μ) (nd : (adr ν).Nodup) : RelM0 S F N H ν ∧ vis N H (adr ν) = vis N H (adr μ) := by
  have ha : ∀ c, c ∈ adr ν ↔ c ∈ adr μ := fun c => by
    simp only [adr, List.mem_map]
    exact ⟨fun ⟨q, h1, h2⟩ => ⟨q, (h q).mp h1, h2⟩, fun ⟨q, h1, h2⟩ => ⟨q, (h q).mpr h1, h2⟩⟩
  have e : vis N H (adr ν) = vis N H (adr μ) := by
    funext c
    unfold vis
    by_cases k : (N c).isSome = true ∨ c ∈ adr μ
    · rw [if_pos k, if_pos (k.imp_right (ha c).mpr)]
    · rw [if_neg k, if_neg fun z => k (z.imp_right (ha c).mp)]
  exact ⟨⟨r.hid, fun c hc => r.dis c ((ha c).mp hc), by rw [e]; exact r.ext, nd, fun q hq => by rw [e]; exact r.mem q ((h q).mp hq), r.tup⟩, e⟩
def SubP (m μ : Mem) : Prop := ∃ m2, List.Perm m m2 ∧ List.Sublist m2 μ
theorem SubP.of {m μ : Mem} (h : List.Sublist m μ) : SubP m μ := ⟨m, .refl _, h⟩
theorem SubP.pm {m m2 μ : Mem} (p : List.Perm m m2) (h : List.Sublist m2 μ) : SubP m μ := ⟨m2, p, h⟩
theorem SubP.ext {N H : Hp} {m μ : Mem} (h : SubP m μ) : Ex (vis N H (adr μ)) (vis N H (adr m)) := by
  obtain ⟨m2, p, s⟩ := h
  rw [← vis_perm p]
  exact sub_vis0 s
theorem SubP.adr {m μ : Mem} (h : SubP m μ) {a : Addr} (k : a ∈ GL.adr m) : a ∈ GL.adr μ := by
  obtain ⟨m2, p, s⟩ := h
  exact (s.map _).subset ((p.map _).subset k)
section
variable {A Z ρ Y : Type}
def sgU (args : A → Z → List D) (mem : A → Z → Mem → Prop) (post : A → Z → ρ → D → Mem → Prop) (posx : A → Z → Y → Mem → Prop) (m : A → (ρ → Prop) → (Y → KX) → Prop) : SpG := fun ds μ Q E =>
  ∃ a z k kx, ds = args a z ∧ mem a z μ ∧ m a k kx ∧ (∀ r d μ', k r → post a z r d μ' → Q d μ') ∧ (∀ c fs y μ', kx y c fs → Plain fs → posx a z y μ' → E c fs μ')
variable {P : Program} {w : World} {K : PySem.W.Frag} {mg : Str → Option Value} {base : Heap} {S : Sg0} {k : Nat} {f : Addr} {fd : FuncData} {N ps : List Str} {x qual : Str} {params : Arguments} {body : List Stmt} {scope : Scope} {dvs : List V} {kws : List (Str × V)}
abbrev EU (post : ρ → D → Mem → Prop) (k : ρ → Prop) : EG := { nx := fun _ μ' => ∃ r m1, List.Sublist m1 μ' ∧ k r ∧ post r .non m1, rt := fun d μ' => ∃ r m1, List.Sublist m1 μ' ∧ k r ∧ post r d m1 }
end
end GL
namespace GL
open PySem L2 PySem.Spec PyProof.Rows
structure Lent (S : Sg0) (b : Bool) (cs : List Nat) (o : HO) : Prop where
  l : ∀ xs, o = .lst xs → b = false
  i : ∀ C dx vs, o = .ins C dx vs → ∀ c ∈ cs, S.cls c ≠ C
  nt : ∀ xs, o ≠ .tup xs
  nf : ∀ u v, o ≠ .frz u v
  ne : ∀ f, o ≠ .ext f
  nx : ∀ x, o ≠ .xd x
section
variable {S : Sg0} {H H' : Hp} {b : Bool} {cs : List Nat}
theorem rd_cut {a : Addr} {u : HO} (hz : ∀ a o, H a = some o → H' a = some o ∨ Lent S b cs o) (h : Rd H a u) (hu : ¬ Lent S b cs u) : Rd H' a u := by
  rcases h with h | ⟨o, h⟩
  · exact (hz _ _ h).elim .inl fun z => absurd z hu
  · exact (hz _ _ h).elim (fun z => .inr ⟨o, z⟩) fun z => absurd rfl (z.nf _ _)
mutual
theorem Rp.lose (hz : ∀ a o, H a = some o → H' a = some o ∨ Lent S b cs o) : ∀ {v : V} {d : D}, Rp S H v d → D.only b cs d = true → Rp S H' v d
  | _, _, .non, _ => .non
  | _, _, .bl b, _ => .bl b
  | _, _, .int i, _ => .int i
  | _, _, .str x, _ => .str x
  | _, _, .lst h hs, e => by
    simp only [D.only, Bool.and_eq_true] at e
    refine .lst ((hz _ _ h).resolve_right fun z => ?_) (RpA.lose hz hs e.2)
    have := z.l _ rfl
    rw [e.1] at this
    cases this
  | _, _, .tup h hs, e => by
    simp only [D.only] at e
    refine .tup ⟨?_, h.2.imp id fun h2 => (hz _ _ h2).resolve_right fun z => z.nt _ rfl⟩ (RpA.lose hz hs e)
    rcases h.1 with h | h
    · exact .inl (rd_cut hz h fun z => z.nt _ rfl)
    · exact .inr h
  | _, _, .obj h hl hs, e => by
    simp only [D.only, Bool.and_eq_true] at e
    exact .obj ((hz _ _ h).resolve_right fun z => z.i _ _ _ rfl _ (by simpa using e.1) rfl) hl (RpA.lose hz hs e.2)
  | _, _, .ref a, _ => .ref a
  | _, _, .ty n, _ => .ty n
  | _, _, .scr h, e => by
    simp only [D.only] at e
    refine .scr ?_
    rcases h with h | h
    · exact .inl (rd_cut hz h fun z => by
        have := z.l _ rfl
        rw [e] at this
        cases this)
    · exact .inr h
  | _, _, .dK h hl hs, e => by
    simp only [D.only] at e
    exact .dK ((hz _ _ h).resolve_right fun z => z.nf _ _ rfl) hl (RpA.lose hz hs e)
  | _, _, .dT h hl hs, e => by
    simp only [D.only] at e
    exact .dT ((hz _ _ h).resolve_right fun z => z.nf _ _ rfl) hl (RpA.lose hz hs e)
  | _, _, .exc h h2 hl hs, e => by
    simp only [D.only] at e
    exact .exc ((hz _ _ h).resolve_right fun z => z.ne _ rfl) ((hz _ _ h2).resolve_right fun z => z.ne _ rfl) hl (RpA.lose hz hs e)
  | _, _, .cau h hl hs, e => by
    simp only [D.only] at e
    exact .cau ((hz _ _ h).resolve_right fun z => z.nx _ rfl) hl (RpA.lose hz hs e)
  | _, _, .lsr h hs, e => by
    simp only [D.only, Bool.and_eq_true] at e
    refine .lsr ((hz _ _ h).resolve_right fun z => ?_) (RpA.lose hz hs e.2)
    have := z.l _ rfl
    rw [e.1] at this
    cases this
  | _, _, .idn h, e => by
    simp only [D.only] at e
    exact .idn (Rp.lose hz h e)
theorem RpA.lose (hz : ∀ a o, H a = some o → H' a = some o ∨ Lent S b cs o) : ∀ {vs : List V} {ds : List D}, RpA S H vs ds → D.onlyA b cs ds = true → RpA S H' vs ds
  | _, _, .nil, _ => .nil
  | _, _, .cons h t, e => by
    simp only [D.onlyA, Bool.and_eq_true] at e
    exact .cons (Rp.lose hz h e.1) (RpA.lose hz t e.2)
end
def M.only (b : Bool) (cs : List Nat) : M → Bool
  | .lst ds => D.onlyA b cs ds
  | .ins _ fs => D.onlyA b cs (fs.map (·.2))
  | .dK kvs => D.onlyA b cs (kvs.map (·.2))
  | .dT kvs => D.onlyA b cs (kvs.map (·.2))
  | .fzK _ _ kvs => D.onlyA b cs (kvs.map (·.2))
  | .fzT _ _ kvs => D.onlyA b cs (kvs.map (·.2))
theorem RpF.lose (hz : ∀ a o, H a = some o → H' a = some o ∨ Lent S b cs o) : ∀ {vs : List (Str × V)} {ds : List (Str × D)}, RpF S H vs ds → D.onlyA b cs (ds.map (·.2)) = true → RpF S H' vs ds
  | _, _, .nil, _ => .nil
  | _, _, .cons h t, e => by
    simp only [List.map_cons, D.onlyA, Bool.and_eq_true] at e
    exact .cons (Rp.lose hz h e.1) (RpF.lose hz t e.2)
theorem RpK.lose {κ : Type} (hz : ∀ a o, H a = some o → H' a = some o ∨ Lent S b cs o) : ∀ {vs : List (κ × V)} {ds : List (κ × D)}, RpK S H vs ds → D.onlyA b cs (ds.map (·.2)) = true → RpK S H' vs ds
  | _, _, .nil, _ => .nil
  | _, _, .cons h t, e => by
    simp only [List.map_cons, D.onlyA, Bool.and_eq_true] at e
    exact .cons (Rp.lose hz h e.1) (RpK.lose hz t e.2)
theorem RpM.lose {m : M} {o : HO} (hz : ∀ a o, H a = some o → H' a = some o ∨ Lent S b cs o) (h : RpM S H m o) (e : M.only b cs m = true) : RpM S H' m o := by
  cases h with
  | lst h => exact .lst (h.lose hz e)
  | ins h => exact .ins (h.lose hz e)
  | dK h => exact .dK (h.lose hz e)
  | dT h => exact .dT (h.lose hz e)
  | fzK h => exact .fzK (h.lose hz e)
  | fzT h => exact .fzT (h.lose hz e)
end
inductive LendM (S : Sg0) (b : Bool) (cs : List Nat) : M → D → Prop
  | lst {ds : List D} : b = false → LendM S b cs (.lst ds) (.lst ds)
  | ins {c : Nat} {l : List D} : (S.nms c).length = l.length → (∀ c' ∈ cs, S.cls c' ≠ S.cls c) → LendM S b cs (.ins (S.cls c) ((S.nms c).zip l)) (.obj c l)
inductive Lend (S : Sg0) (b : Bool) (cs : List Nat) : Mem → List (Addr × D) → Prop
  | nil : Lend S b cs [] []
  | cons {z : Addr} {m : M} {d : D} {μ : Mem} {l : List (Addr × D)} : LendM S b cs m d → Lend S b cs μ l → Lend S b cs ((z, m) :: μ) ((z, d) :: l)
inductive Bor (S : Sg0) (l : List (Addr × D)) : Gm → Gm → Prop
  | nil : Bor S l [] []
  | same {g : Option D} {Γ Γ' : Gm} : Bor S l Γ Γ' → Bor S l (g :: Γ) (g :: Γ')
  | bor {z : Addr} {o : D} {Γ Γ' : Gm} : (z, o) ∈ l → Bor S l Γ Γ' → Bor S l (some (.ref z) :: Γ) (some o :: Γ')
  | sem {d o : D} {Γ Γ' : Gm} : (∀ (W : Hp) (v : V), (∀ z o, (z, o) ∈ l → Rp S W (.ref z) o) → Rp S W v d → Rp S W v o) → Bor S l Γ Γ' → Bor S l (some d :: Γ) (some o :: Γ')
theorem Lend.adr {S : Sg0} {b : Bool} {cs : List Nat} : ∀ {μ : Mem} {l : List (Addr × D)}, Lend S b cs μ l → ∀ z o, (z, o) ∈ l → ∃ m, (z, m) ∈ μ ∧ LendM S b cs m o
  | _, _, .nil, _, _, h => by cases h
  | _, _, .cons h t, z, o, hm => by
    rcases List.mem_cons.mp hm with e | hm
    · cases e
      exact ⟨_, .head _, h⟩
    · obtain ⟨m, h1, h2⟩ := t.adr z o hm
      exact ⟨m, .tail _ h1, h2⟩
theorem Lend.m {S : Sg0} {b : Bool} {cs : List Nat} : ∀ {μ : Mem} {l : List (Addr × D)}, Lend S b cs μ l → ∀ q ∈ μ, ∃ o, LendM S b cs q.2 o
  | _, _, .nil, _, h => by cases h
  | _, _, .cons h t, q, hm => by
    rcases List.mem_cons.mp hm with rfl | hm
    · exact ⟨_, h⟩
    · exact t.m q hm
theorem LendM.lent {S : Sg0} {H : Hp} {b : Bool} {cs : List Nat} {m : M} {d : D} {o : HO} (h : LendM S b cs m d) (r : RpM S H m o) : Lent S b cs o := by
  cases h with
  | lst hb =>
    cases r
    exact ⟨fun _ _ => hb, fun _ _ _ e => (by cases e), fun _ e => (by cases e), fun _ _ e => (by cases e), fun _ e => (by cases e), fun _ e => (by cases e)⟩
  | ins hl hc =>
    cases r
    exact ⟨fun _ e => (by cases e), fun _ _ _ e => (by cases e; exact hc), fun _ e => (by cases e), fun _ _ e => (by cases e), fun _ e => (by cases e), fun _ e => (by cases e)⟩
theorem LendM.rp {S : Sg0} {H W : Hp} {b : Bool} {cs : List Nat} {m : M} {d : D} {o : HO} {z : Addr} (h : LendM S b cs m d) (r : RpM S H m o) (e : Ex H W) (hz : W z = some o) : Rp S W (.ref z) d := by
  cases h with
  | lst hb =>
    cases r with
    | lst r => exact .lst hz (r.ext e)
  | ins hl hc =>
    cases r with
    | ins r =>
      obtain ⟨ws, e1, e2, e3⟩ := r.zip hl
      subst e1
      exact .obj hz e2 (e3.ext e)
section
variable {S : Sg0} {F N H H' : Hp} {μ a d0 bz bh μ' : Mem} {bb : Bool} {cs : List Nat} {lz : List (Addr × D)}
theorem Split.sub {μ a b : Mem} (s : Split μ a b) : List.Sublist a μ ∧ List.Sublist b μ := by
  induction s with
  | nil => exact ⟨.slnil, .slnil⟩
  | l _ ih => exact ⟨ih.1.cons_cons _, ih.2.cons _⟩
  | r _ ih => exact ⟨ih.1.cons _, ih.2.cons_cons _⟩
theorem RelM0.back (r : RelM0 S F N H μ) (s : Split μ a d0) (s2 : Split d0 bz bh) (L : Lend S bb cs bz lz) {ν : Mem} (hν : ∀ q, q ∈ ν ↔ q ∈ a ∨ q ∈ bh) (hs : List.Sublist ν μ) (sν : Split ν a bh)
    (r' : RelM0 S (vis N H (adr ν)) (hidP N H bh) H' μ') (ho : ∀ q ∈ μ', M.only bb cs q.2 = true) :
    RelM0 S F N H' (μ' ++ d0) ∧ (∀ {v d}, Rp S (vis (hidP N H bh) H' (adr μ')) v d → D.only bb cs d = true → Rp S (vis N H' (adr (μ' ++ d0))) v d) ∧
      (∀ {v d}, RpA S (vis (hidP N H bh) H' (adr μ')) v d → D.onlyA bb cs d = true → RpA S (vis N H' (adr (μ' ++ d0))) v d) ∧ ∀ z, (hidP N H bh) z = none → z ∉ adr μ' → z ∈ adr (μ' ++ d0) → ∃ o, H' z = some o ∧ Lent S bb cs o := by
  have rν := r.drop hs
  obtain ⟨j1, j2⟩ := rν.join sν r'
  obtain ⟨n1, n2, n3⟩ := s.nd r.nd
  obtain ⟨m1, m2, m3⟩ := s2.nd n2
  -- the lent cells
  have hz : ∀ q ∈ bz, ∃ o, H q.1 = some o ∧ RpM S (vis N H (adr μ)) q.2 o ∧ vis N H (adr ν) q.1 = some o := fun q hq => by
    have hq0 : q ∈ d0 := (s2.mem q).mpr (.inl hq)
    have hqm : q ∈ μ := (s.mem q).mpr (.inr hq0)
    obtain ⟨o, e, m⟩ := r.mem q hqm
    refine ⟨o, e, m, vis_mk e (r.dis _ (List.mem_map_of_mem hqm)) fun z => ?_⟩
    obtain ⟨q', h1, h2⟩ := List.mem_map.mp z
    rcases (hν q').mp h1 with h | h
    · exact n3 q'.1 (List.mem_map_of_mem h) (h2 ▸ List.mem_map_of_mem hq0)
    · exact m3 q.1 (List.mem_map_of_mem hq) (h2 ▸ List.mem_map_of_mem h)
  have hzv : ∀ q ∈ bz, ∃ o, H' q.1 = some o ∧ RpM S (vis N H (adr μ)) q.2 o ∧ vis N H' (adr (μ' ++ bh)) q.1 = some o ∧ Lent S bb cs o := fun q hq => by
    obtain ⟨o, e, m, hv⟩ := hz q hq
    obtain ⟨x, lx⟩ := L.m q hq
    have := (rν.ext.trans (Ex.refl _))
    have e1 : vis N H' (adr (μ' ++ bh)) q.1 = some o := by rw [j2]; exact r'.ext _ _ hv
    exact ⟨o, vis_le _ _ e1, m, e1, lx.lent m⟩
  have had : ∀ c, c ∈ adr (μ' ++ d0) ↔ c ∈ adr (μ' ++ bh) ∨ c ∈ adr bz := fun c => by
    have := s2.adr c
    simp only [adr, List.map_append, List.mem_append] at this ⊢
    rw [this, or_assoc, or_comm (a := c ∈ List.map _ bz)]
  have key : ∀ c ∈ adr bz, c ∉ adr (μ' ++ bh) := fun c hc h => by
    obtain ⟨q, hq, rfl⟩ := List.mem_map.mp hc
    obtain ⟨o, e, m, hv, _⟩ := hzv q hq
    exact (vis_in hv).2.1 h
  have hle : ∀ x o, vis N H' (adr (μ' ++ bh)) x = some o → vis N H' (adr (μ' ++ d0)) x = some o ∨ Lent S bb cs o := fun x o e => by
    obtain ⟨h1, h2, h3⟩ := vis_in e
    by_cases hx : x ∈ adr bz
    · obtain ⟨q, hq, rfl⟩ := List.mem_map.mp hx
      obtain ⟨o', e', _, hv, l⟩ := hzv q hq
      rw [h3] at e'
      cases e'
      exact .inr l
    · exact .inl (vis_mk h3 h1 fun z => ((had x).mp z).elim h2 hx)
  have up : Ex (vis N H (adr μ)) (vis N H' (adr (μ' ++ d0))) := fun x o e => by
    obtain ⟨h1, h2, h3⟩ := vis_in e
    have e0 : vis N H (adr ν) x = some o := vis_mk h3 h1 fun z => h2 ((hs.map _).subset z)
    have e1 : vis N H' (adr (μ' ++ bh)) x = some o := by rw [j2]; exact r'.ext _ _ e0
    obtain ⟨k1, k2, k3⟩ := vis_in e1
    refine vis_mk k3 k1 fun z => ((had x).mp z).elim k2 fun hz => h2 ((s.adr x).mpr (.inr ((s2.adr x).mpr (.inl hz))))
  have cut : ∀ {v d}, Rp S (vis (hidP N H bh) H' (adr μ')) v d → D.only bb cs d = true → Rp S (vis N H' (adr (μ' ++ d0))) v d := fun h e => by
    rw [← j2] at h
    exact h.lose hle e
  have cutA : ∀ {v d}, RpA S (vis (hidP N H bh) H' (adr μ')) v d → D.onlyA bb cs d = true → RpA S (vis N H' (adr (μ' ++ d0))) v d := fun h e => by
    rw [← j2] at h
    exact h.lose hle e
  refine ⟨⟨j1.hid, fun c hc => ?_, r.ext.trans up, ?_, fun q hq => ?_, r.tup⟩, cut, cutA, fun z h1 h2 h3 => ?_⟩
  · rcases (had c).mp hc with h | h
    · exact j1.dis c h
    · exact r.dis c ((s.adr c).mpr (.inr ((s2.adr c).mpr (.inl h))))
  · show ((μ' ++ d0).map _).Nodup
    rw [List.map_append]
    refine List.nodup_append.mpr ⟨r'.nd, n2, fun x hx y hy e => ?_⟩
    subst e
    rcases (s2.adr x).mp hy with h | h
    · exact key x h (by simp only [adr, List.map_append, List.mem_append]; exact .inl hx)
    · have := (List.nodup_append.mp (show ((adr μ') ++ (adr bh)).Nodup from by rw [adr, adr, ← List.map_append]; exact j1.nd)).2.2
      exact this x hx x h rfl
  · rcases List.mem_append.mp hq with h | h
    · obtain ⟨o, e, m⟩ := r'.mem q h
      rw [← j2] at m
      exact ⟨o, e, m.lose hle (ho q h)⟩
    · rcases (s2.mem q).mp h with h | h
      · obtain ⟨o, e, m, _⟩ := hzv q h
        exact ⟨o, e, m.ext up⟩
      · obtain ⟨o, e, m⟩ := r.mem q ((s.mem q).mpr (.inr ((s2.mem q).mpr (.inr h))))
        obtain ⟨o', e1, e2⟩ := hidP_in rν sν (List.mem_map_of_mem h : q.1 ∈ adr bh)
        rw [e] at e2
        cases e2
        exact ⟨o, r'.hid _ _ e1, m.ext up⟩
  · rcases (had z).mp h3 with h | h
    · simp only [adr, List.map_append, List.mem_append] at h
      rcases h with h | h
      · exact absurd h h2
      · obtain ⟨o, e, _⟩ := hidP_in rν sν h
        rw [h1] at e
        cases e
    · obtain ⟨q, hq, rfl⟩ := List.mem_map.mp h
      obtain ⟨o, e, _, _, l⟩ := hzv q hq
      exact ⟨o, e, l⟩
end
abbrev Sg.lend (S : Sg) (bb : Bool) (cs : List Nat) (d0 : Mem) : Sg := ⟨S.toSg0, fun c fs μ' => D.onlyA bb cs fs = true ∧ (∀ q ∈ μ', M.only bb cs q.2 = true) ∧ S.qx c fs (μ' ++ d0), S.wx⟩
section
variable {X : Cx} {S : Sg} {e : Expr} {es : List Expr} {Γ Γ' : Gm} {μ a d0 bz bh : Mem} {bb : Bool} {cs : List Nat} {lz : List (Addr × D)}
end
end GL
namespace GL
open PySem L2 PySem.Spec PyProof.Rows
class Only (b : Bool) (cs : List Nat) (α : Type) [Rpd α] : Prop where
  on : ∀ x : α, D.only b cs (rp x) = true
section
variable {b : Bool} {cs : List Nat} {α β γ δ : Type}
instance : Only b cs Int := ⟨fun _ => rfl⟩
instance : Only b cs Bool := ⟨fun _ => rfl⟩
instance : Only b cs Unit := ⟨fun _ => rfl⟩
instance : Only b cs Nm := ⟨fun _ => rfl⟩
theorem onA [Rpd α] [Only b cs α] : ∀ l : List α, D.onlyA b cs (l.map rp) = true
  | [] => rfl
  | x :: l => by
    show (D.only b cs (rp x) && D.onlyA b cs (l.map rp)) = true
    rw [Only.on x, onA l]
    rfl
instance [Rpd α] [Only true cs α] : Only true cs (List α) := ⟨fun l => by
  show (true && D.onlyA true cs (l.map rp)) = true
  rw [onA l]
  rfl⟩
instance [Rpd α] [Only b cs α] : Only b cs (Tu α) := ⟨fun l => onA l.l⟩
instance [Rpd α] [Rpd β] [Only b cs α] [Only b cs β] : Only b cs (α × β) := ⟨fun x => by
  show (D.only b cs (rp x.1) && (D.only b cs (rp x.2) && true)) = true
  rw [Only.on x.1, Only.on x.2]
  rfl⟩
instance [Rpd α] [Rpd β] [Rpd γ] [Only b cs α] [Only b cs β] [Only b cs γ] : Only b cs (T3 α β γ) := ⟨fun x => by
  show (D.only b cs (rp x.a) && (D.only b cs (rp x.b) && (D.only b cs (rp x.c) && true))) = true
  rw [Only.on x.a, Only.on x.b, Only.on x.c]
  rfl⟩
instance [Rpd α] [Rpd β] [Rpd γ] [Rpd δ] [Only b cs α] [Only b cs β] [Only b cs γ] [Only b cs δ] : Only b cs (T4 α β γ δ) := ⟨fun x => by
  show (D.only b cs (rp x.a) && (D.only b cs (rp x.b) && (D.only b cs (rp x.c) && (D.only b cs (rp x.d) && true)))) = true
  rw [Only.on x.a, Only.on x.b, Only.on x.c, Only.on x.d]
  rfl⟩
instance [Rpd α] [Only b cs α] : Only b cs (Option α) := ⟨fun x => by
  cases x with
  | none => rfl
  | some y => exact Only.on y⟩
instance [Rpd α] [Rpd β] [Only b cs α] [Only b cs β] : Only b cs (α ⊕ β) := ⟨fun x => by
  cases x with
  | inl y => exact Only.on y
  | inr y => exact Only.on y⟩
end
section
variable {X : Cx} {S : Sg} {e : Expr} {es : List Expr} {Γ Γ' : Gm} {μ a d0 bz bh : Mem} {bb : Bool} {cs : List Nat} {lz : List (Addr × D)}
abbrev Sg.lend0 (S : Sg) (μ : Mem) : Sg := ⟨S.toSg0, fun c fs μ' => Plain fs ∧ μ' = [] ∧ S.qx c fs μ, S.wx⟩
abbrev Sg.lendP (S : Sg) (p : Addr) (μ : Mem) : Sg := ⟨S.toSg0, fun c fs μ' => Plain fs ∧ ∃ l', PoolOk l' ∧ μ' = [(p, .lst l')] ∧ S.qx c fs ((p, .lst l') :: μ), S.wx⟩
theorem RelM.qx {S : Sg} {q : QE} {F N H : Hp} {μ : Mem} (r : RelM S F N H μ) (h : ∀ c fs μ', q c fs μ' → S.qx c fs μ') : RelM ⟨S.toSg0, q, S.wx⟩ F N H μ :=
  ⟨r.toRelM0, fun cls d H ⟨c, dd, vs, ds, μ, h1, h2, h3, hl, h4, r', h5, h6, h7⟩ => r.iv cls d H ⟨c, dd, vs, ds, μ, h1, h2, h3, hl, h4, r', h5, h6, h c ds μ h7⟩⟩
theorem EvG.qx {q : QE} {Q : QD} (h : ∀ c fs μ', q c fs μ' → S.qx c fs μ') (k : EvG X ⟨S.toSg0, q, S.wx⟩ e Γ μ Q) : EvG X S e Γ μ Q := fun F N σ H r rs =>
  (k F N σ H (r.qx h) rs).mono fun _ _ ⟨d, μ', r', rd, z⟩ => ⟨d, μ', ⟨r'.toRelM0, r.iv⟩, rd, z⟩
theorem EvT.qx {q : QE} {Q : Bool → Mem → Prop} (h : ∀ c fs μ', q c fs μ' → S.qx c fs μ') (k : EvT X ⟨S.toSg0, q, S.wx⟩ e Γ μ Q) : EvT X S e Γ μ Q := fun F N σ H r rs =>
  (k F N σ H (r.qx h) rs).mono fun _ _ ⟨μ', r', z⟩ => ⟨μ', ⟨r'.toRelM0, r.iv⟩, z⟩
theorem EvT.mono {Q Q' : Bool → Mem → Prop} (h : EvT X S e Γ μ Q) (m : ∀ d μ', Q d μ' → Q' d μ') : EvT X S e Γ μ Q' := fun F N σ H r rs =>
  (h F N σ H r rs).mono fun _ _ ⟨μ', r', q⟩ => ⟨μ', r', m _ μ' q⟩
end
theorem Del.perm {a : Addr} {m : M} {μ μr : Mem} (u : Del a m μ μr) : (∀ q, q ∈ (a, m) :: μr ↔ q ∈ μ) ∧ ((adr μ).Nodup → (adr ((a, m) :: μr)).Nodup) := by
  induction u with
  | here => exact ⟨fun q => Iff.rfl, fun h => h⟩
  | @there p r r' u ih =>
    refine ⟨fun q => ?_, fun h => ?_⟩
    · have := ih.1 q
      simp only [List.mem_cons] at this ⊢
      rw [← this, ← or_assoc, ← or_assoc, or_comm (a := q = (a, m))]
    · obtain ⟨h1, h2⟩ := List.nodup_cons.mp h
      have i2 := ih.2 h2
      obtain ⟨k1, k2⟩ := List.nodup_cons.mp i2
      have hm : ∀ c, c ∈ adr ((a, m) :: r') ↔ c ∈ adr r := fun c => by
        simp only [adr, List.mem_map]
        exact ⟨fun ⟨q, h1, h2⟩ => ⟨q, (ih.1 q).mp h1, h2⟩, fun ⟨q, h1, h2⟩ => ⟨q, (ih.1 q).mpr h1, h2⟩⟩
      refine List.nodup_cons.mpr ⟨fun z => ?_, List.nodup_cons.mpr ⟨fun z => h1 ((hm _).mp (List.mem_cons_of_mem _ z)), k2⟩⟩
      rcases List.mem_cons.mp z with e | z
      · exact h1 ((hm _).mp (by rw [← e]; exact List.mem_cons_self))
      · exact k1 z
section
variable {A W : Type} {args : A → List D} {flds : W → List (Str × D)} {C : Addr}
end
section
variable {X : Cx} {S : Sg} {CX : CXT} {k : Nat} {f C : Addr} {fd : FuncData} {ps : List Str} {sg : SpG} {Γ : Gm} {μ : Mem} {Q : QD} {e : Expr} {es : List Expr} {x : Str} {pos p : Pos} {E : EG} {sts : List Stmt} {dvs : List V} {dds : List D}
theorem cC0 {C : Addr} (hm' : MonoG sg) (M : Mk X.K C f) (F : FnOk X.prog X.w X.K X.mg X.base CX k f fd ps (spG S sg)) (hr : Room (k + 1) X.A) (hm : X.mg x = some (.ref C)) (hb : ∃ ds, Vals dvs ds ∧ Binds X.K fd ps ds) (hdd : ∀ Hv, RpA S Hv dvs dds) (hx : Passes CX X S.wx)
    (h : NewG S C sg dds μ (FrzQ S.toSg0 Q)) (hg : Gl X x := by rfl) (hdb : (x == ("__debug__" : Str)) = false := by decide) : EvG X S (.Call (.Name x p) [] [] pos) Γ μ Q := by
  obtain ⟨ds, hd, hb⟩ := hb
  exact ev_frz <| ev_make0 hm' M F hr hg hm hb hd hdd hx h hdb
end
section
variable {X : Cx} {S : Sg} {tg : Expr} {body sts : List Stmt} {E : EG}
def ForU (X : Cx) (S : Sg) (tg : Expr) (body sts : List Stmt) (E : EG) : List D → Gm → Mem → Prop
  | [], Γ, μ => BlG X S sts Γ μ E
  | d :: ds, Γ, μ => TgG X S (List.range 64) tg d Γ μ fun Γ2 μ2 => BlG X S body Γ2 μ2 { nx := ForU X S tg body sts E ds, ct := ForU X S tg body sts E ds, bk := fun Γ' μ' => BlG X S sts Γ' μ' E, rt := E.rt }
end
theorem cpw30 : CPow 10 30 := ⟨by decide, by decide, by decide⟩
theorem bl_norm {X : Cx} {S : Sg} {sts : List Stmt} {Γ : Gm} {μ : Mem} {E : EG} (Γ' : Gm) (μ' : Mem) (h : BlG X S sts Γ' μ' E) (e : Γ = Γ' := by rfl) (e2 : μ = μ' := by rfl) : BlG X S sts Γ μ E := by
  subst e e2
  exact h
section
variable {X : Cx} {S : Sg} {tg : Expr} {body sts : List Stmt} {E : EG}
end
end GL
namespace GL
open PySem L2 PySem.Spec PyProof.Rows
class Apart (α β : Type) [Rpd α] [Rpd β] : Prop where
  ap : ∀ (x : α) (y : β), D.eqv (rp x) (rp y) = false ∧ D.eqv (rp y) (rp x) = false
section
variable {α β γ δ : Type}
instance [Rpd α] [Rpd β] : Apart (Tu α) (List β) := ⟨fun x y => by
  show D.eqv (.tup _) (.lst _) = false ∧ D.eqv (.lst _) (.tup _) = false
  simp [D.eqv, D.py, PyData.eqv]⟩
instance [Rpd α] [Rpd β] [Rpd γ] : Apart (α × β) (List γ) := ⟨fun x y => by
  show D.eqv (.tup _) (.lst _) = false ∧ D.eqv (.lst _) (.tup _) = false
  simp [D.eqv, D.py, PyData.eqv]⟩
instance [Rpd α] [Rpd β] [Rpd γ] [Rpd δ] : Apart (T3 α β γ) (List δ) := ⟨fun x y => by
  show D.eqv (.tup _) (.lst _) = false ∧ D.eqv (.lst _) (.tup _) = false
  simp [D.eqv, D.py, PyData.eqv]⟩
theorem eqv_tupL : ∀ {l k : List D}, l.length ≠ k.length → D.eqv (.tup l) (.tup k) = false
  | [], [], h => absurd rfl h
  | [], _ :: _, _ => by simp [D.eqv, D.py, D.pyA, PyData.eqv, PyData.eqvAll]
  | _ :: _, [], _ => by simp [D.eqv, D.py, D.pyA, PyData.eqv, PyData.eqvAll]
  | x :: l, y :: k, h => by
    rw [eqv_tup0, eqv_tupL (fun e => h (by simp [e])), Bool.and_false]
instance {α' β' : Type} [Rpd α] [Rpd β] [Rpd α'] [Rpd β'] [Rpd γ] : Apart (α × β) (T3 α' β' γ) := ⟨fun x y => ⟨eqv_tupL (fun h => nomatch h), eqv_tupL (fun h => nomatch h)⟩⟩
variable [DecidableEq α] [DecidableEq β]
instance [Dt α] [Dt β] [Apart α β] : Dt (α ⊕ β) where
  dep := max (Dt.dep α) (Dt.dep β)
  dok x := by
    cases x with
    | inl x => exact D.ok_up (Dt.dok x) (Nat.le_max_left _ _)
    | inr x => exact D.ok_up (Dt.dok x) (Nat.le_max_right _ _)
  deq x y := by
    cases x with
    | inl x => cases y with
      | inl y => exact (Dt.deq x y).trans (decide_eq_decide.mpr (by simp))
      | inr y => exact (Apart.ap x y).1.trans (by simp)
    | inr x => cases y with
      | inl y => exact (Apart.ap y x).2.trans (by simp)
      | inr y => exact (Dt.deq x y).trans (decide_eq_decide.mpr (by simp))
instance [Dt α] [Dt β] [Apart α β] [Nn α] [Nn β] : Nn (α ⊕ β) := ⟨fun x => by
  cases x with
  | inl x => exact Nn.nn x
  | inr x => exact Nn.nn x⟩
end
section
variable {X : Cx} {S : Sg} {tg : Expr} {μ : Mem} {R : RI}
end
theorem Split.left : ∀ A B : Mem, Split (A ++ B) A B
  | [], B => Split.none B
  | _ :: A, B => .l (Split.left A B)
theorem Split.right : ∀ A B : Mem, Split (A ++ B) B A
  | [], B => Split.all B
  | _ :: A, B => .r (Split.right A B)
theorem Split.blk {μ a b : Mem} (s : Split μ a b) : ∀ A : Mem, Split (A ++ μ) (A ++ a) b
  | [] => s
  | _ :: A => .l (s.blk A)
theorem Split.perm {μ a b : Mem} (s : Split μ a b) : List.Perm μ (a ++ b) := by
  induction s with
  | nil => exact .refl _
  | l _ ih => exact .cons _ ih
  | r _ ih => exact (List.Perm.cons _ ih).trans List.perm_middle.symm
end GL
namespace GL
open PySem L2 PySem.Spec PyProof.Rows
section
variable {a : Addr} {m m' : M} {μ μ' : Mem}
theorem Upd.blk (u : Upd a m m' μ μ') : ∀ B : Mem, Upd a m m' (B ++ μ) (B ++ μ')
  | [] => u
  | _ :: B => .there (u.blk B)
theorem Del.blk (u : Del a m μ μ') : ∀ B : Mem, Del a m (B ++ μ) (B ++ μ')
  | [] => u
  | _ :: B => .there (u.blk B)
end
section
variable {A Z ρ Y : Type} {args : A → Z → List D} {mem : A → Z → Mem → Prop} {post : A → Z → ρ → D → Mem → Prop} {posx : A → Z → Y → Mem → Prop} {m : A → (ρ → Prop) → (Y → KX) → Prop} {k : ρ → Prop} {kx : Y → KX} {S : Sg} {C : Addr} {ds : List D} {μ a1 b1 : Mem} {Q : QD}
end
end GL
namespace GL
open PySem L2 PySem.Spec PyProof.Rows
theorem OkS.app {x y : Str} (h : OkS x) (k : OkS y) : OkS (x ++ y) := by
  refine OkS_of fun c hc => ?_
  have e1 : ∀ z : Str, OkS z → ∀ c ∈ cs z, c < 1114112 := fun z hz c hc => by
    have hz : z.cps.all (· < 0x110000) = true := hz
    rw [← Array.all_toList] at hz
    exact of_decide_eq_true (List.all_eq_true.mp hz c hc)
  rw [cs_app] at hc
  rcases List.mem_append.mp hc with hc | hc
  · exact e1 x h c hc
  · exact e1 y k c hc
def nmE : Nm := ⟨"", by decide +kernel⟩
def nmApp (a b : Nm) : Nm := if h : a.1.length + b.1.length ≤ 1000 then ⟨a.1 ++ b.1, a.2.1.app b.2.1, by rw [str_app_len]; exact h⟩ else nmE
theorem int_txt : ∀ n : Fin 100, OkS (toString ((n.val : Nat) : Int)) ∧ (toString ((n.val : Nat) : Int) : Str).length ≤ 1000 := by decide +kernel
def nmInt (i : Int) : Nm := if h : 0 ≤ i ∧ i < 100 then ⟨toString i, by
  have := int_txt ⟨i.toNat, by omega⟩
  rw [show ((i.toNat : Nat) : Int) = i by omega] at this
  exact this⟩ else nmE
section
variable {X : Cx} {S : Sg} {μ : Mem} {Q : QD}
def intsOf : List Expr → Option (List Int)
  | [] => some []
  | .Constant (.int i) _ _ :: es => (intsOf es).map (i :: ·)
  | _ => none
end
end GL
namespace GL
open PySem
section held
variable {prog : Program} {w : World} {A : Around} {s : Shared} {z TI TO T i1 i2 l1 l2 : Addr} {f : Bool} {oT : Obj} {j1 j2 : Nat} {xs ys : Array Value}
structure ZT (h : Heap) (i1 i2 TI l1 l2 : Addr) (j1 j2 : Nat) (xs ys : Array Value) : Prop where
  ti : IsPair h TI (.ref i1) (.ref i2)
  a : h.IsTupleIter i1 l1 j1
  b : h.IsTupleIter i2 l2 j2
  p : h.IsTuple l1 xs
  q : h.IsTuple l2 ys
variable {E : Value → Shared → Prop}
theorem ZT.still {h h' : Heap} (Z : ZT h i1 i2 TI l1 l2 j1 j2 xs ys) (D : ZipApart z TI TO i1 i2 l1 l2) (k : ∀ c o, c ≠ z → h.get? c = some o → h'.get? c = some o) : ZT h' i1 i2 TI l1 l2 j1 j2 xs ys :=
  ⟨k _ _ D.TIz Z.ti, Z.a.at fun o e => k _ o D.i1z e, Z.b.at fun o e => k _ o D.i2z e, Z.p.at fun o e => k _ o D.l1z e, Z.q.at fun o e => k _ o D.l2z e⟩
end held
end GL
namespace GL
open PySem L2 RZ PySem.Spec PyProof.Rows
section
variable {X : Cx} {S : Sg} {e1 e2 : Expr} {Γ : Gm} {μ : Mem} {p pos tpos : Pos} {elts : List Expr} {kk : Nat} {R : RI} {Q : QD}
end
section
variable {X : Cx} {S : Sg} {e e1 e2 : Expr} {Γ : Gm} {μ : Mem} {p pos tpos apos cpos : Pos} {elts : List Expr} {kk : Nat} {R : RI}
end
section
variable {X : Cx} {S : Sg} {e o e1 e2 : Expr} {Γ : Gm} {μ : Mem} {apos cpos : Pos} {Q : QD}
end
section
variable {X : Cx} {S : Sg} {e : Expr} {sts : List Stmt} {Γ : Gm} {μ : Mem} {Q : QD} {E : EG} {x : Str} {pos : Pos}
end
end GL
namespace GL
open PySem L2 PySem.Spec PyProof.Rows
section
variable {X : Cx} {S : Sg} {Γ : Gm} {μ : Mem} {Q : QD}
end
theorem BlG.mono {X : Cx} {S : Sg} {sts : List Stmt} {Γ : Gm} {μ : Mem} {E E' : EG} (h : BlG X S sts Γ μ E) (h1 : ∀ Γ μ, E.nx Γ μ → E'.nx Γ μ) (h2 : ∀ d μ, E.rt d μ → E'.rt d μ) (h3 : ∀ Γ μ, E.bk Γ μ → E'.bk Γ μ) (h4 : ∀ Γ μ, E.ct Γ μ → E'.ct Γ μ) : BlG X S sts Γ μ E' := fun F N σ H r rs =>
  BXt.mono (h F N σ H r rs) (fun σ' H' ⟨Γ', μ', r', rs', q⟩ => ⟨Γ', μ', r', rs', h1 _ _ q⟩) (fun v H' ⟨d, μ', r', rd, q⟩ => ⟨d, μ', r', rd, h2 _ _ q⟩) (fun σ' H' ⟨Γ', μ', r', rs', q⟩ => ⟨Γ', μ', r', rs', h3 _ _ q⟩) (fun σ' H' ⟨Γ', μ', r', rs', q⟩ => ⟨Γ', μ', r', rs', h4 _ _ q⟩)
def whI {σ : Type} (s0 : σ) (step : σ → (σ → Prop) → Prop) : Prop := ∃ (I : σ → Prop) (m : σ → Nat), I s0 ∧ ∀ s, I s → step s fun s' => I s' ∧ m s' < m s
section
variable {X : Cx} {S : Sg} {Γ : Gm} {μ : Mem} {E : EG} {c : Expr} {body sts : List Stmt} {pos : Pos}
end
section
variable {X : Cx} {S : Sg} {CX : CXT} {k : Nat} {f : Addr} {fd : FuncData} {ps : List Str} {sg : SpG} {Γ : Gm} {μ : Mem} {Q : QD} {o e : Expr} {es : List Expr} {m : Str} {pos apos : Pos}
end
end GL
namespace GL
open PySem L2 PySem.Spec PyProof.Rows
abbrev vN (x : Nm) : V := V.str x.1
def rRem : V → List V → Hp → VK → Prop := fun x vs H Q => ∃ (l : Addr) (xs : List Nm) (y : Nm), x = .ref l ∧ vs = [vN y] ∧ H l = some (.lst (xs.map vN)) ∧ y ∈ xs ∧ Q .non (upd H l (.lst ((xs.erase y).map vN)))
def sgFr (sg : SpG) : SpG := fun ds μ Q E => ∃ a b, Split μ a b ∧ sg ds a (fun d μ' => Q d (μ' ++ b)) (fun c fs μ' => E c fs (μ' ++ b))
end GL
namespace GL
open PySem L2 PySem.Spec PyProof.Rows
section
variable {X : Cx} {S : Sg} {k kf : Nat} {f g C : Addr} {fld : Str} {fd : FuncData} {ps : List Str} {sg : SpG} {μ : Mem} {Q : QD} {d : D} {l : List D}
end
end GL
namespace GL
open PySem L2 PySem.Spec PyProof.Rows
section
variable {X : Cx} {S : Sg} {Γ : Gm} {μ : Mem} {e : Expr} {es : List Expr} {kws : List Keyword} {p kpos : Pos}
structure KXt (X : Cx) (kws : List Keyword) (σ : L2.St) (H : Hp) (Q : List V → Hp → Prop) : Prop where
  run : ∀ (pos : Pos) (pins : List (Addr × Obj)) (s : Shared), Inv X pins σ H s → wpAny (model X.prog X.w) X.A (evalAll ((backToKw pos (keywordEach kws X.env)).map (·.2))) (AP X pins σ Q) X.xe s
theorem KXt.mono {σ : L2.St} {H : Hp} {Q Q' : List V → Hp → Prop} (h : KXt X kws σ H Q) (m : ∀ v H', Q v H' → Q' v H') : KXt X kws σ H Q' := ⟨fun pos pins s I =>
  thn (h.run pos pins s I) fun _ _ ⟨v, H', I', r, q⟩ => ⟨v, H', I', r, m v H' q⟩⟩
def EvK (X : Cx) (S : Sg) (kws : List Keyword) (Γ : Gm) (μ : Mem) (Q : List D → Mem → Prop) : Prop := ∀ F N σ H, RelM S F N H μ → RelS S (vis N H (adr μ)) σ Γ → KXt X kws σ H (EndA S F N Q)
end
section
variable {X : Cx} {S : Sg} {CX : CXT} {k n : Nat} {f C : Addr} {fd : FuncData} {ps ks : List Str} {sg : SpG} {Γ : Gm} {μ : Mem} {Q : QD} {e : Expr} {es : List Expr} {kws : List Keyword} {x : Str} {pos p : Pos} {g : List Value → List Value → List Value} {gV : List V → List V → List V}
end
theorem RpF.frz {S : Sg0} {Hv : Hp} {n : Str} {y : Addr} {l : List D} (hy : Rp S Hv (.ref y) (.lst l)) : ∀ {f1 f2 : List (Str × D)} {vs : List (Str × V)}, RpF S Hv vs (f1 ++ (n, .ref y) :: f2) → RpF S Hv vs (f1 ++ (n, .lst l) :: f2)
  | [], _, _, h => by
    cases h with
    | cons r t =>
      cases r
      exact .cons hy t
  | _ :: f1, f2, _, h => by
    cases h with
    | cons r t => exact .cons r (RpF.frz (f1 := f1) (f2 := f2) hy t)
end GL
namespace L2
open PySem PySem.Spec PyProof.Rows
def IteT (K : PySem.W.Frag) (a : Addr) : It :=
  ⟨fun i H => ∃ (xs : List V) (x : V), SqT K H a xs ∧ xs[i]? = some x, fun i H v H' => ∃ T x, v = .ref T ∧ H T = none ∧ H' = upd H T (.tup [.int (i : Nat), x]) ∧ ∀ xs, SqT K H a xs → xs[i]? = some x, fun i H => ∃ xs : List V, SqT K H a xs ∧ xs.length ≤ i⟩
set_option maxHeartbeats 1000000 in
def iEnumT (K : PySem.W.Frag) (ta : TA) : TI := fun σ H R => ta σ H fun vs H1 => ∃ a xs, vs = [.ref a] ∧ ((SqL K H1 a xs ∧ R (Ite K a) H1) ∨ (SqT K H1 a xs ∧ R (IteT K a) H1))
end L2
namespace GL
open PySem L2 PySem.Spec PyProof.Rows
def enumD (l : List D) : List D := l.mapIdx fun i d => .tup [.int i, d]
def enumF {α : Type} (l : List α) : List (Int × α) := l.mapIdx fun i x => ((i : Int), x)
section
variable {X : Cx} {S : Sg} {e : Expr} {Γ : Gm} {μ : Mem} {p pos tpos : Pos} {elts : List Expr} {kk : Nat} {R : RI} {α : Type} [Rpd α]
end
section
variable {X : Cx} {S : Sg} {a b c : Expr} {Γ : Gm} {μ : Mem} {p1 p2 pos : Pos} {kk : Nat} {Q : QD} {α : Type} [Rpd α]
end
end GL
namespace GL
open PySem L2 PySem.Spec PyProof.Rows
section
variable {X : Cx} {S : Sg} {o : Expr} {Γ : Gm} {μ : Mem} {Q : QD} {pos : Pos}
end
section
variable {X : Cx} {S : Sg} {tg iter elt : Expr} {ifs : List Expr} {scope : Scope} {own : List (Str × Nat)} {Γ : Gm} {μ : Mem} {pos : Pos}
end
end GL
namespace GL
open PySem L2 PySem.Spec PyProof.Rows
structure T5 (α β γ δ ε : Type) where
  a : α
  b : β
  c : γ
  d : δ
  e : ε
deriving DecidableEq
instance {α β γ δ ε : Type} [Rpd α] [Rpd β] [Rpd γ] [Rpd δ] [Rpd ε] : Rpd (T5 α β γ δ ε) := ⟨fun x => .tup [rp x.a, rp x.b, rp x.c, rp x.d, rp x.e]⟩
section
variable {X : Cx} {S : Sg} {μ : Mem} {Q : QD} {d e : D}
end
def dwF {β γ δ ε ζ η θ ι κ : Type} : ((T3 Nm β γ) ⊕ (T3 Nm δ ε) ⊕ (T5 Nm ζ η θ ι) ⊕ (Nm × κ)) → Nm
  | .inl x => x.a
  | .inr (.inl x) => x.a
  | .inr (.inr (.inl x)) => x.a
  | .inr (.inr (.inr x)) => x.1
section
variable {X : Cx} {S : Sg} {μ : Mem} {Q : QD} {β γ δ ε ζ η θ ι κ : Type} [Rpd β] [Rpd γ] [Rpd δ] [Rpd ε] [Rpd ζ] [Rpd η] [Rpd θ] [Rpd ι] [Rpd κ]
end
end GL
namespace GL
open PySem L2 PySem.Spec PyProof.Rows
end GL
namespace GL
open PySem L2 PySem.Spec PyProof.Rows TL
def ch1 (c : Nat) : Nm := if h : c < 1114112 then ⟨⟨#[c]⟩, OkS_of (by intro d hd; rw [cs_one] at hd; cases List.mem_singleton.mp hd; exact h), by show (#[c] : Array Nat).size ≤ 1000; exact Nat.le_trans (Nat.le_of_eq rfl) (show 1 ≤ 1000 by decide)⟩ else nmE
def chs (x : Nm) : List Nm := (cs x.1).map ch1
def nmJoin (l : List Nm) : Nm := if h : OkS (Txt.join (Str.ofString "") (l.map (·.1))) ∧ (Txt.join (Str.ofString "") (l.map (·.1))).length ≤ 1000 then ⟨_, h⟩ else nmE
section
variable {X : Cx} {S : Sg} {μ : Mem} {Q : QD}
end
end GL
namespace GL
open PySem L2 PySem.Spec PyProof.Rows
section
variable {X : L2.Cx} {pl : List (Addr × Obj)} {γ : L2.St} {M : Hp} {t : Shared} {er : Value → Shared → Prop}
def tDcT (wi : TI) (tg : TG) (tc : TT) (tk tv : TE) (vs : List Nat) : TE := fun γ M Q => wi γ M fun It M1 => ∀ d, M1 d = none → ∃ Z : Nat → Nat → Hp → Prop, (∃ n, Z 0 n (upd M1 d (.dT []))) ∧ ∀ j n M', Z j n M' →
  (It.stop j M' ∧ Q (.ref d) M') ∨ (It.go j M' ∧ ∃ Nx : Hp → Prop, (∀ M2, Nx M2 → ∃ n', n' < n ∧ Z (j + 1) n' M2) ∧ ∀ x M2, It.yld j M' x M2 → tg x (wipe γ vs) M2 fun γ2 M3 => wipe γ2 vs = wipe γ vs ∧ tc γ2 M3 fun c M4 =>
    if c = true then tk γ2 M4 fun y M5 => tv γ2 M5 fun z M6 => ∃ ps key b, y = .ref b ∧ M6 b = some (.tup (key.map kV)) ∧ M6 d = some (.dT ps) ∧ ps.length < sizeLine ∧ Nx (upd M6 d (.dT (putK ps key z))) else Nx M4)
variable {kx vx tgt src : Expr} {cs : List Expr} {sc : Scope} {own : List (Str × Nat)} {pos : Pos} {wi : TI} {tg : TG} {tc : TT} {tk tv : TE}
abbrev TurnP (X : L2.Cx) (sc : Scope) (Pr : L2.Cx → Prop) : Prop := ∀ (u : Shared) (M : Hp) (C : Addr) (cl : List (Str × Addr)) (fp : List Addr), Pr (X.blk u M sc (compEnvC sc cl C X.env) fp)
end
end GL
namespace GL
open PySem L2 PySem.Spec PyProof.Rows
abbrev Pn := Nm × Nm
structure Dp (α : Type) where
  l : List (Pn × α)
def keyP (p : Pn) : List Key := [.inr p.1.1, .inr p.2.1]
def kvPn {α : Type} [Rpd α] (l : List (Pn × α)) : List (List Key × D) := l.map fun x => (keyP x.1, rp x.2)
instance {α : Type} [Rpd α] : Rpd (Dp α) := ⟨fun x => .dT (x.l.map fun y => keyP y.1) (x.l.map fun y => rp y.2)⟩
def lkp {α : Type} (l : List (Pn × α)) (p : Pn) : Option α := (l.find? fun x => decide (x.1 = p)).map (·.2)
def putP {α : Type} (l : List (Pn × α)) (p : Pn) (v : α) : List (Pn × α) := if (l.any fun x => decide (x.1 = p)) = true then l.map (fun x => if x.1 = p then (x.1, v) else x) else l ++ [(p, v)]
section
variable {α : Type} [Rpd α]
end
inductive DrfT2 (μ : Mem) : D → List (List Key × D) → Prop
  | val {ks : List (List Key)} {ds : List D} : ks.length = ds.length → DrfT2 μ (.dT ks ds) (ks.zip ds)
  | ref {a : Addr} {kvs : List (List Key × D)} : (a, M.dT kvs) ∈ μ → DrfT2 μ (.ref a) kvs
theorem RpA.zipT2 {S : Sg0} {Hv : Hp} : ∀ {ks : List (List Key)} {vs : List V} {ds : List D}, RpA S Hv vs ds → RpK S Hv (ks.zip vs) (ks.zip ds)
  | [], _, _, _ => by simp; exact .nil
  | _ :: _, _, _, .nil => .nil
  | _ :: _, _, _, .cons r t => .cons r (RpA.zipT2 t)
theorem DrfT2.at {S : Sg0} {F N H : Hp} {μ : Mem} {d : D} {kvs : List (List Key × D)} {x : V} (h : DrfT2 μ d kvs) (r : RelM0 S F N H μ) (rx : Rp S (vis N H (adr μ)) x d) : ∃ a vs, x = .ref a ∧ Rd H a (.dT vs) ∧ RpK S (vis N H (adr μ)) vs kvs := by
  cases h with
  | val hl =>
    cases rx with
    | dT h1 h2 h3 => exact ⟨_, _, rfl, .inr ⟨_, vis_le _ _ h1⟩, h3.zipT2⟩
  | ref hm =>
    cases rx
    obtain ⟨o, e, rm⟩ := r.find hm
    cases rm with
    | dT h => exact ⟨_, _, rfl, .inl e, h⟩
section
variable {X : Cx} {S : Sg} {o i e f : Expr} {Γ : Gm} {μ : Mem} {Q : QD} {pos p1 p2 apos cpos : Pos} {α : Type} [Rpd α]
end
end GL
namespace GL
open PySem L2 PySem.Spec PyProof.Rows
def DcG (X : Cx) (S : Sg) (α : Type) [Rpd α] (tg kx vx : Expr) (ifs : List Expr) (scope : Scope) (vs : List Nat) (Γ : Gm) (Km : Mem → Prop) (ds : List D) (μ1 : Mem) (Q : QD) : Prop :=
  ∀ p, p ∉ adr μ1 → ∃ I : Nat → Mem → Prop, I 0 ((p, .dT []) :: μ1) ∧ (∀ i μ', I i μ' → Km μ') ∧
    (∀ i d μ', ds[i]? = some d → I i μ' → ∀ k : Bk,
      TgG (k.cx X scope) S vs tg d (wipeG Γ vs) μ' fun Γ2 μ2 => ∀ k : Bk, TsG (k.cx X scope) S ifs Γ2 μ2 fun b μ3 =>
          (b = true → ∀ k : Bk, EvG (k.cx X scope) S kx Γ2 μ3 fun y μ4 => ∀ k : Bk, EvG (k.cx X scope) S vx Γ2 μ4 fun z μ5 => ∃ (l : List (Pn × α)) (q : Pn) (v : α) (μ6 : Mem), y = rp q ∧ z = rp v ∧ l.length < 16777216 ∧ Upd p (.dT (kvPn l)) (.dT (kvPn (putP l q v))) μ5 μ6 ∧ I (i + 1) μ6) ∧ (b = false → I (i + 1) μ3)) ∧
    (∀ μ', I ds.length μ' → Q (.ref p) μ')
section
variable {X : Cx} {S : Sg} {α : Type} [Rpd α] {tg iter kx vx : Expr} {ifs : List Expr} {scope : Scope} {own : List (Str × Nat)} {Γ : Gm} {μ : Mem} {pos : Pos}
end
end GL
namespace GL
open PySem L2 PySem.Spec PyProof.Rows
section
variable {X : Cx} {S : Sg} {e : Expr} {Γ : Gm} {μ : Mem} {Q : QD} {α : Type} [Rpd α]
end
def dcI {τ β : Type} (xs : List τ) (step : τ → (Pn → β → Prop) → Prop) (K : List (Pn × β) → Prop) : Prop :=
  ∃ I : Nat → List (Pn × β) → Prop, I 0 [] ∧ (∀ i x l, xs[i]? = some x → I i l → l.length < 16777216 ∧ step x (fun p v => I (i + 1) (putP l p v))) ∧ ∀ l, I xs.length l → K l
section
variable {X : Cx} {S : Sg} {τ β : Type} [Rpd β] {tg kx vx : Expr} {scope : Scope} {vs : List Nat} {Γ : Gm} {μ : Mem}
def DcStep (X : Cx) (S : Sg) (β : Type) [Rpd β] (tg kx vx : Expr) (scope : Scope) (vs : List Nat) (Γ : Gm) (d : D) (μ1 : Mem) (p : Addr) (NX : Mem → Prop) : Prop :=
  ∀ k : Bk, TgG (k.cx X scope) S vs tg d (wipeG Γ vs) μ1 fun Γ2 μ2 => ∀ k : Bk, TsG (k.cx X scope) S [] Γ2 μ2 fun b μ3 =>
    (b = true → ∀ k : Bk, EvG (k.cx X scope) S kx Γ2 μ3 fun y μ4 => ∀ k : Bk, EvG (k.cx X scope) S vx Γ2 μ4 fun z μ5 => ∃ (l : List (Pn × β)) (q : Pn) (v : β) (μ6 : Mem), y = rp q ∧ z = rp v ∧ l.length < 16777216 ∧ Upd p (.dT (kvPn l)) (.dT (kvPn (putP l q v))) μ5 μ6 ∧ NX μ6) ∧ (b = false → NX μ3)
end
end GL
namespace GL
open PySem L2 PySem.Spec PyProof.Rows
section
variable {X : Cx} {S : Sg} {e : Expr} {Γ : Gm} {μ : Mem} {R : RI} {elts : List Expr} {kk : Nat} {tpos apos cpos p pos : Pos} {α : Type} [Rpd α] {tg : Expr}
end
section
variable {X : Cx} {S : Sg} {e : Expr} {Γ : Gm} {μ : Mem} {R : RI} {p p2 pos pos2 : Pos} {tg : Expr}
end
end GL
namespace GL
open PySem L2 PySem.Spec PyProof.Rows
section
variable {μ : Mem} {d : D} {α : Type} [Rpd α]
end
section
variable {X : Cx} {S : Sg} {e : Expr} {Γ : Gm} {μ : Mem} {R : RI} {p p2 pos pos2 : Pos} {tg : Expr} {α : Type} [Rpd α]
end
section
variable {X : Cx} {S : Sg} {a b : Expr} {Γ : Gm} {μ : Mem} {p1 pos : Pos} {kk : Nat} {Q : QD} {α : Type} [Rpd α]
end
end GL
namespace GL
open PySem L2 PySem.Spec PyProof.Rows
def It3 (K : PySem.W.Frag) (a b c : Addr) (n : Nat) : It :=
  ⟨fun i H => i < n ∧ ∃ xs ys zs : List V, SqT K H a xs ∧ SqT K H b ys ∧ SqT K H c zs ∧ n = min (min xs.length ys.length) zs.length,
    fun i H v H' => ∃ T x y z, v = .ref T ∧ H T = none ∧ H' = upd H T (.tup [x, y, z]) ∧ (∀ xs, SqT K H a xs → xs[i]? = some x) ∧ (∀ ys, SqT K H b ys → ys[i]? = some y) ∧ ∀ zs, SqT K H c zs → zs[i]? = some z,
    fun i H => n ≤ i ∧ ∃ xs ys zs : List V, SqT K H a xs ∧ SqT K H b ys ∧ SqT K H c zs ∧ n = min (min xs.length ys.length) zs.length⟩
def iZip3 (K : PySem.W.Frag) (ta : TA) : TI := fun σ H R => ta σ H fun vs H1 => ∃ a b c xs ys zs, vs = [.ref a, .ref b, .ref c] ∧ SqT K H1 a xs ∧ SqT K H1 b ys ∧ SqT K H1 c zs ∧ R (It3 K a b c (min (min xs.length ys.length) zs.length)) H1
def zip3 {α β γ : Type} : List α → List β → List γ → List (T3 α β γ)
  | x :: xs, y :: ys, z :: zs => ⟨x, y, z⟩ :: zip3 xs ys zs
  | _, _, _ => []
section
variable {α β γ : Type} [Rpd α] [Rpd β] [Rpd γ]
variable {X : Cx} {S : Sg} {e1 e2 e3 : Expr} {Γ : Gm} {μ : Mem} {R : RI} {p pos tpos : Pos} {elts : List Expr} {kk : Nat}
end
end GL
namespace GL
open PySem L2 PySem.Spec PyProof.Rows
section
variable {X : L2.Cx} {kx vx tgt src : Expr} {cs : List Expr} {sc : Scope} {own : List (Str × Nat)} {pos : Pos} {wi : TI} {tg : TG} {tc : TT} {tk tv : TE}
end
section
variable {X : Cx} {S : Sg} {α : Type} [Rpd α] {tg iter kx vx : Expr} {ifs : List Expr} {scope : Scope} {own : List (Str × Nat)} {Γ : Gm} {μ : Mem} {pos : Pos}
end
end GL
namespace GL
open PySem L2 PySem.Spec PyProof.Rows
section
variable {X : Cx} {S : Sg} {Γ : Gm} {μ μ' : Mem} {E : EG} {sts : List Stmt} {α : Type} [Rpd α]
end
end GL
namespace GL
open PySem L2 PySem.Spec PyProof.Rows
section
def frH (h : Heap) (a x : Addr) : Heap := (h.update a (Obj.mapFields (·.setIfInBounds 3 (.ref x)))).update a (Obj.mapFields (·.setIfInBounds 4 (.bool true)))
end
section
variable {X : Cx} {W : WX}
end
section
variable {M : Model} {A A' : Around} {E E2 : Value → Shared → Prop} {s : Shared} {B : Heap} {env : Env} {outer : List Env} {L a : Addr} {Z : Obj → Prop}
end
section
variable {X : Cx} {pins : List (Addr × Obj)} {σ : L2.St} {H : Hp} {s : Shared}
end
section
variable {X : Cx} {body : List Stmt} {x n : Str} {c : Value} {i : Nat} {st : Stmt} {suite : List Stmt} {np pp pos : Pos} {tb : WX → TS} {ts : Addr → Value → Option Addr → TS} {Wout : WX}
end
section
variable {X : Cx} {CX : CXT} {x : Str} {e : Expr} {es : List Expr} {ta : TA} {p pos : Pos} {C fI : Addr} {k : Nat} {fd : FuncData} {ps : List Str} {sp : Sp}
end
section
variable {X : Cx} {S : Sg} {e : Expr} {Γ : Gm} {μ : Mem} {Q : QD}
def strG (Γ : Gm) : Gm := Γ.map fun o => match o with
  | some (.str z) => some (.str z)
  | _ => none
end
section
variable {X : Cx} {S : Sg} {c : Nat} {fI : Addr} {fd : FuncData} {ps : List Str} {chk : List V → Prop} {x : Str} {p pos pos' : Pos} {e : Expr} {es : List Expr} {Γ : Gm} {μ : Mem} {E : EG}
structure ExcH (P : Program) (w : World) (K : PySem.W.Frag) (mg : Str → Option Value) (base : Heap) (S : Sg0) (c : Nat) (fI : Addr) (fd : FuncData) (ps : List Str) (chk : List V → Prop) : Prop where
  T : OexC K (S.cls c)
  iC : PySem.W.findIn K (.ref (S.cls c)) "__init__" = some (some (.ref fI))
  tI : PySem.W.typeIn K (.ref fI) = some (.type "function")
  hb : Binds K fd ps []
  F : L2H.FnH P w K mg base CX0 1 fI fd ps (spEx S c chk)
end
section
variable {X : Cx} {CX : CXT} {k : Nat} {f C : Addr} {fd : FuncData} {ps : List Str} {sp : Sp} {E : L2.St → XK} {m : Str} {pos apos : Pos} {e o : Expr} {es : List Expr} {ta : TE} {t : TA}
end
section
variable {X : Cx} {S : Sg} {E : EG} {Γ : Gm} {μ : Mem} {q : QE} {x n m : Str} {c : Value} {i k : Nat} {st : Stmt} {suite : List Stmt} {np pp pos epos cpos apos : Pos} {o e : Expr} {es : List Expr} {sg : SpG} {ns : List Str} {C f : Addr} {fd : FuncData} {ps : List Str}
end
end GL
namespace GL
open PySem L2 PySem.Spec PyProof.Rows
def tWith0 (C : Addr) (spE spX : Sp) (E : XK) (te : TE) (tb : TS) : TS := fun D σ H => te σ H fun v H1 => ∃ a dx fs, v = .ref a ∧ H1 a = some (.ins C dx fs) ∧ spE [.ref a] H1 (fun _ H2 =>
  tb { nx := fun σ' H' => spX [.ref a, .non, .non, .non] H' (fun _ H'' => D.nx σ' H'') E, rt := fun v H' => spX [.ref a, .non, .non, .non] H' (fun _ H'' => D.rt v H'') E,
       bk := fun σ' H' => spX [.ref a, .non, .non, .non] H' (fun _ H'' => D.bk σ' H'') E, ct := fun σ' H' => spX [.ref a, .non, .non, .non] H' (fun _ H'' => D.ct σ' H'') E } σ H2) E
section
variable {X : Cx} {CXE CXX : CXT} {kE kX : Nat} {C fe fx : Addr} {spE spX : Sp} {E : XK} {ctx : Expr} {body : List Stmt} {pos : Pos} {te : TE} {tb : TS}
end
section
variable {X : Cx} {S : Sg} {CXE CXX : CXT} {kE kX : Nat} {C fe fx : Addr} {sgE sgX : SpG} {ctx : Expr} {body : List Stmt} {pos : Pos} {Γ : Gm} {μ : Mem} {E : EG} {ns : List Str}
end
def sgStar (n : Nat) (sg : SpG) : SpG := fun ds μ Q E => ds.length = n + (ds.drop n).length ∧ (ds.drop n).length ≤ 16777216 ∧ sg (ds.take n ++ [.tup (ds.drop n)]) μ Q E
section
variable {P : Program} {w : World} {K : PySem.W.Frag} {mg : Str → Option Value} {base : Heap} {S : Sg0} {k : Nat} {f : Addr} {fd : FuncData} {N ps : List Str} {x qual pv : Str} {params : Arguments} {body : List Stmt} {scope : Scope} {dvs : List V} {kws : List (Str × V)}
variable {A Z ρ Y : Type}
def StarB (fd : FuncData) (ps : List Str) (pv : Str) : Prop := ∀ us rest : List Value, us.length = ps.length → bindArgs fd ⟨us ++ rest, []⟩ = (newTuple rest >>= fun t => pure (ps.zip us ++ [(pv, t)]))
end
def tMethSL (K : PySem.W.Frag) (C : Addr) (m : Str) (g : Addr) (sp : Sp) (E : XK) (ta te : TE) : TE := fun σ H Q => ta σ H fun x H1 => ∃ a dx fs, x = .ref a ∧ H1 a = some (.ins C dx fs) ∧ fs.lookup m = none ∧
  ∀ q, H1 q = none → te σ (upd H1 q (.met g a)) fun y H2 => ∃ b vs, y = .ref b ∧ (SqT K H2 b vs ∨ SqL K H2 b vs) ∧ H2 q = some (.met g a) ∧ sp (.ref a :: vs) H2 Q E
section
variable {X : Cx} {S : Sg} {CX : CXT} {k : Nat} {C g f : Addr} {sg : SpG} {m : Str} {o e : Expr} {es : List Expr} {p apos pos : Pos} {Γ : Gm} {μ : Mem} {Q : QD} {ns : List Str} {fd : FuncData} {ps : List Str}
end
end GL
namespace GL
open PySem L2 PySem.Spec PyProof.Rows
def restF {β γ δ ε ζ η θ ι κ : Type} : ((T3 Nm β γ) ⊕ (T3 Nm δ ε) ⊕ (T5 Nm ζ η θ ι) ⊕ (Nm × κ)) → ((β × γ) ⊕ (δ × ε) ⊕ (T4 ζ η θ ι) ⊕ Tu κ)
  | .inl x => .inl (x.b, x.c)
  | .inr (.inl x) => .inr (.inl (x.b, x.c))
  | .inr (.inr (.inl x)) => .inr (.inr (.inl ⟨x.b, x.c, x.d, x.e⟩))
  | .inr (.inr (.inr x)) => .inr (.inr (.inr ⟨[x.2]⟩))
section
variable {X : Cx} {S : Sg} {μ : Mem} {Q : QD} {β γ δ ε ζ η θ ι κ : Type} [Rpd β] [Rpd γ] [Rpd δ] [Rpd ε] [Rpd ζ] [Rpd η] [Rpd θ] [Rpd ι] [Rpd κ]
end
section
variable {X : Cx} {S : Sg} {CX : CXT} {k : Nat} {f C : Addr} {fd : FuncData} {ps : List Str} {sg : SpG} {Γ : Gm} {μ : Mem} {value o i : Expr} {p2 pos : Pos} {E : EG}
end
theorem onA2 {b : Bool} {cs : List Nat} {α β : Type} [Rpd β] [Only b cs β] (f : α → β) : ∀ l : List α, D.onlyA b cs (l.map fun x => rp (f x)) = true
  | [] => rfl
  | x :: l => by
    show (D.only b cs (rp (f x)) && D.onlyA b cs (l.map fun x => rp (f x))) = true
    rw [Only.on (f x), onA2 f l]
    rfl
instance {b : Bool} {cs : List Nat} {α : Type} [Rpd α] [Only b cs α] : Only b cs (Dc α) := ⟨fun x => onA2 (fun p : Nm × α => p.2) x.l⟩
end GL
namespace GL
open PySem L2 PySem.Spec PyProof.Rows
instance {b : Bool} {cs : List Nat} {α β γ δ ε : Type} [Rpd α] [Rpd β] [Rpd γ] [Rpd δ] [Rpd ε] [Only b cs α] [Only b cs β] [Only b cs γ] [Only b cs δ] [Only b cs ε] : Only b cs (T5 α β γ δ ε) := ⟨fun x => by
  show (D.only b cs (rp x.a) && (D.only b cs (rp x.b) && (D.only b cs (rp x.c) && (D.only b cs (rp x.d) && (D.only b cs (rp x.e) && true))))) = true
  rw [Only.on x.a, Only.on x.b, Only.on x.c, Only.on x.d, Only.on x.e]
  rfl⟩
section
variable {X : Cx}
def tBMx (T : String) (r : V → List V → Hp → VK → Prop) (to : TE) (t : TA) : TE := fun σ H Q => to σ H fun x H1 => (∃ p o u, x = V.ref p ∧ H1 p = some (.frz o u) ∧ o.cls = .type T ∧ o.dict = none) ∧ t σ H1 fun xs H2 => r x xs H2 Q
variable {o e : Expr} {es : List Expr} {to : TE} {t : TA} {name : Str} {apos cpos : Pos} {T id : String} {r : V → List V → Hp → VK → Prop}
end
def spTx (S : Sg0) (arg : D → List D → Prop) : Sp := fun vs H Q _ => ∃ F N v d l, vs = [v] ∧ RelM0 S F N H [] ∧ Rp S (vis N H (adr [])) v d ∧ arg d l ∧
  ∀ p o xs H', RelM0 S F N H' [] → vis N H' (adr []) p = some (.frz o (.tup xs)) → RpA S (vis N H' (adr [])) xs l → o.cls = .type "tuple" → o.dict = none → Q (.ref p) H'
section
variable {P : Program} {w : World} {K : PySem.W.Frag} {mg : Str → Option Value} {base : Heap} {S : Sg0} {k : Nat} {f : Addr} {fd : FuncData} {N ps : List Str} {x qual : Str} {params : Arguments} {body : List Stmt} {scope : Scope} {dvs : List V} {kws : List (Str × V)}
end
section
variable {X : Cx} {S : Sg} {CX : CXT} {k : Nat} {f C : Addr} {fd : FuncData} {ps : List Str} {arg : D → List D → Prop} {m : Str} {o e : Expr} {apos cpos ipos pos : Pos} {Γ : Gm} {μ : Mem} {Q : QD} {ns : List Str}
end
end GL
namespace GL
open PySem L2 PySem.Spec PyProof.Rows
section
variable {K : PySem.W.Frag} {f : Addr} {oc : Value} {od : Option Addr} {name qual : Str} {params : Arguments} {body : List Stmt} {scope : Scope} {kV doc pm cdv ct : Value} {an : Option Addr} {osl : Array (Option Value)}
theorem funD_of (l : K.lookup f = some ⟨oc, od, .func (PySem.W.fnOf name qual params body scope .none kV doc pm an cdv ct), osl⟩) (c : PySem.W.codeIn K cdv qual = true) (k : PySem.W.keepIn K (.ref f) = true) :
    FunD K name qual params body scope [] [] f (PySem.W.fnOf name qual params body scope .none kV doc pm an cdv ct) := ⟨⟨oc, od, _, kV, doc, pm, an, cdv, ct, osl, rfl, l, c, .inl ⟨rfl, rfl⟩, .inl rfl⟩, k⟩
abbrev fdOf {x qual : Str} {params : Arguments} {body : List Stmt} {scope : Scope} {dvs : List V} {kws : List (Str × V)} {fd : FuncData} (_ : FunD K x qual params body scope dvs kws f fd) : FuncData := fd
end
end GL
namespace GL
open PySem L2 PySem.Spec PyProof.Rows
section
variable {X : Cx} {S : Sg} {e : Expr} {Γ Γ' : Gm} {μ d0 bz bh : Mem} {bb : Bool} {cs : List Nat} {lz : List (Addr × D)}
abbrev Sg.lendC (S : Sg) (bb : Bool) (cs : List Nat) (p C : Addr) (μ : Mem) : Sg := ⟨S.toSg0, fun c fs μ' => Plain fs ∧ ∃ l', D.onlyA bb cs (l'.map (·.2)) = true ∧ μ' = [(p, .ins C l')] ∧ S.qx c fs ((p, .ins C l') :: μ), S.wx⟩
end
section
variable {b : Bool} {cs : List Nat} {α β γ δ : Type} [Rpd α] [Rpd β] [Rpd γ] [Rpd δ] [Only b cs α] [Only b cs β] [Only b cs γ] [Only b cs δ]
end
instance {α : Type} [Rpd α] : Apart (Tu α) Int := ⟨fun x y => by
  show D.eqv (.tup _) (.int _) = false ∧ D.eqv (.int _) (.tup _) = false
  simp [D.eqv, D.py, PyData.eqv]⟩
section
variable {X : Cx} {S : Sg} {μ : Mem} {Q : QD} {d e : D} {α β : Type} [DecidableEq α] [Dt α] [DecidableEq β] [Dt β]
end
end GL
namespace GL
open PySem L2 PySem.Spec PyProof.Rows
def FnA (P : Program) (w : World) (K : PySem.W.Frag) (mg : Str → Option Value) (base : Heap) (k : Nat) (f : Addr) (sp : Sp) : Prop :=
  ∀ (A : Around) (outer : List Env) (s : Shared) (H : Hp) (us : List Value) (vs : List V) (Q : VK), L2H.RoomH k A → Env0 P w K mg base A outer s H → Vals vs us → sp vs H Q (fun _ _ _ => False) →
    codeAny (model P w) A (.call (.ref f) ⟨us, []⟩) (CR CX0 outer P w H s Q (fun _ _ _ => False)) s
abbrev cxA (P : Program) (w : World) (K : PySem.W.Frag) (mg : Str → Option Value) (base : Heap) (N : List Str) (qual : Str) (scope : Scope) (f : Addr) (cd : Value) (A : Around) (outer : List Env) (s : Shared) (H : Hp) : Cx :=
  { cxOf CX0 P w K mg base N qual scope f cd A outer s H (fun _ _ _ => False) with calm := false }
section
variable {P : Program} {w : World} {K : PySem.W.Frag} {mg : Str → Option Value} {base : Heap} {k : Nat} {f : Addr} {fd : FuncData} {x qual : Str} {params : Arguments} {body : List Stmt} {scope : Scope} {dvs : List V} {kws : List (Str × V)} {N ps : List Str}
end
section
variable {P : Program} {w : World} {K : PySem.W.Frag} {mg : Str → Option Value} {base : Heap} {S : Sg0} {k : Nat} {f : Addr} {fd : FuncData} {N ps : List Str} {x qual : Str} {params : Arguments} {body : List Stmt} {scope : Scope} {dvs : List V} {kws : List (Str × V)}
variable {A Z ρ Y : Type}
end
section
variable {pr : Program} {w : World} {A : Around} {E : Value → Shared → Prop} {s : Shared} {env : Env} {K : PySem.W.Frag} {x C fe fx : Addr} {ox : Obj} {od : Option Obj} {pos : Pos}
def WEnd (pr : Program) (w : World) (A : Around) (E : Value → Shared → Prop) (env : Env) (x fx : Addr) (Q : Flow → Shared → Prop) (e : Value) (t : Shared) : Prop :=
  wpAny (model pr w) A (noteFrame e env) (fun _ t1 => e ≠ byPass ∧ wpAny (model pr w) A (setFlight e none) (fun _ t2 => wpAny (model pr w) A (typeOf e) (fun c t3 => wpAny (model pr w) A (tracebackOf e) (fun tb t4 =>
    codeAny (model pr w) (A.mark (some e)) (.call (.ref fx) ⟨[.ref x, c, e, tb], []⟩) (fun r t5 => r = .ok (.ret (.bool false)) ∧ wpAny (model pr w) A (passOn "with" e env : Sem Flow) Q E t5) t4) E t3) E t2) E t1) E t
end
def tWithX (C : Addr) (spE spX spY : Sp) (E : XK) (Wout : WX) (te : TE) (tb : WX → TS) : TS := fun D σ H => te σ H fun v H1 => ∃ a dx fs, v = .ref a ∧ H1 a = some (.ins C dx fs) ∧ spE [.ref a] H1 (fun _ H2 =>
  tb (fun cls d τ G => ∃ c, cls = .ref c ∧ ∀ (x : Addr) (y : V), (y = .non ∨ ∃ T, y = .ref T) → spY [.ref a, .ref c, .ref x, y] G (fun z G' => z = .bl false ∧ Wout cls d τ G') (fun _ _ _ => False))
    { nx := fun τ G => spX [.ref a, .non, .non, .non] G (fun _ G' => D.nx τ G') E, rt := fun v G => spX [.ref a, .non, .non, .non] G (fun _ G' => D.rt v G') E,
      bk := fun τ G => spX [.ref a, .non, .non, .non] G (fun _ G' => D.bk τ G') E, ct := fun τ G => spX [.ref a, .non, .non, .non] G (fun _ G' => D.ct τ G') E } σ H2) E
section
variable {X : Cx} {CXE CXX : CXT} {kE kX kY : Nat} {C fe fx : Addr} {spE spX spY : Sp} {E : XK} {ctx : Expr} {body : List Stmt} {pos : Pos} {te : TE} {tb : WX → TS} {Wout : WX}
end
section
variable {X : Cx} {CXE CXX : CXT} {kE kX kY : Nat} {C fe fx : Addr} {spE spX spY : Sp} {E : XK} {ctx : Expr} {body : List Stmt} {pos : Pos} {te : TE} {tb : WX → TS} {Wout : WX}
end
section
variable {X : Cx} {S : Sg} {CXE CXX : CXT} {kE kX kY : Nat} {C fe fx : Addr} {sgE sgX sgY : SpG} {ctx : Expr} {body : List Stmt} {pos : Pos} {Γ : Gm} {μ : Mem} {E : EG} {ns : List Str}
def withQ (S : Sg) (sgY : SpG) (d : D) : QE := fun c fs μ => ∀ (x : Addr) (dy : D), (dy = .non ∨ ∃ T, dy = .ref T) → AskG S.toSg0.nx sgY [d, .ref (S.cls c), .ref x, dy] μ fun z μ' => z = .bl false ∧ S.qx c fs μ'
end
end GL
namespace GL
open PySem L2 PySem.Spec PyProof.Rows
section
variable {X : Cx} {CX : CXT} {k : Nat} {C f : Addr} {m : Str} {sp : Sp} {E : XK} {o e : Expr} {es : List Expr} {ta : TE} {t : TA} {apos pos : Pos}
end
section
variable {X : Cx} {S : Sg} {CX : CXT} {k : Nat} {C f : Addr} {sg : SpG} {m : Str} {o e : Expr} {es : List Expr} {apos pos : Pos} {Γ : Gm} {μ : Mem} {Q : QD} {ns : List Str}
end
structure WTup (K : PySem.W.Frag) (t : Addr) (xs : List Str) : Prop where
  ex : ∃ (o : Obj) (its : Array Value) (n : Nat), K.lookup t = some o ∧ o.cls = .type "tuple" ∧ o.data = .seq its n ∧ its.size ≤ sizeLine ∧ Vals (xs.map V.str) its.toList
section
variable {X : Cx} {S : Sg} {C t : Addr} {mc : Value} {f : Str} {e : Expr} {pos : Pos} {Γ : Gm} {μ : Mem} {Q : QD} {xs ys : List Str}
end
section
variable {β γ δ ε ζ η θ ι κ ν : Type}
def dwX : ((T3 Nm β γ) ⊕ (T3 Nm δ ε) ⊕ (T5 Nm ζ η θ ι) ⊕ (Nm × κ)) ⊕ (Nm × ν) → Nm
  | .inl x => dwF x
  | .inr x => x.1
def restX : ((T3 Nm β γ) ⊕ (T3 Nm δ ε) ⊕ (T5 Nm ζ η θ ι) ⊕ (Nm × κ)) ⊕ (Nm × ν) → ((β × γ) ⊕ (δ × ε) ⊕ (T4 ζ η θ ι) ⊕ Tu κ) ⊕ Tu ν
  | .inl x => .inl (restF x)
  | .inr x => .inr ⟨[x.2]⟩
variable {X : Cx} {S : Sg} {μ : Mem} {Q : QD} [Rpd β] [Rpd γ] [Rpd δ] [Rpd ε] [Rpd ζ] [Rpd η] [Rpd θ] [Rpd ι] [Rpd κ] [Rpd ν]
end
end GL
namespace GL
open PySem L2 PySem.Spec PyProof.Rows PySem.W PySem.Builtin PySem.Builtin.Int PySem.Builtin.Float
def spC : Str := Str.ofString ","
def fC : FormatSpec := { fill := 32, align := 62, grouping := some ',' }
def comT (a : Int) : Str := intField' fC (decide (a < 0)) [] ((Nat.toDigits 10 a.natAbs).map fun c => c.toNat) [] 3
section
variable {prog : Program} {w : World} {A : Around} {E : Value → Shared → Prop} {s : Shared}
end
end GL
namespace GL
open PySem L2 PySem.Spec PyProof.Rows PySem.W PySem.Builtin PySem.Builtin.Str PySem.Builtin.Float
def spL : Str := Str.ofString "<12"
def spR : Str := Str.ofString ">16"
def fL : FormatSpec := { fill := 32, align := 60, width := some 12 }
def fR : FormatSpec := { fill := 32, align := 62, width := some 16 }
def padL (x : Str) : Str := if x.length ≥ 12 then x else ⟨(x.cps.toList ++ List.replicate (12 - x.length) 32).toArray⟩
def padR (x : Str) : Str := if x.length ≥ 16 then x else ⟨(List.replicate (16 - x.length) 32 ++ x.cps.toList).toArray⟩
end GL
namespace GL
open PySem L2 PySem.Spec PyProof.Rows PySem.W PySem.Builtin PySem.Builtin.Str PySem.Builtin.Float
end GL
namespace L2
open PySem PySem.Spec PyProof.Rows GL
section
variable {X : Cx}
def ltT (x : Str) : Prop := x.length ≤ 100000
end
end L2
namespace GL
open PySem L2 PySem.Spec PyProof.Rows TL
def nmOf (x : Str) : Nm := if h : OkS x ∧ x.length ≤ 1000 then ⟨x, h⟩ else nmE
def nmLj (x : Nm) : Nm := nmOf (Txt.ljust x.1 12)
def nmRj (x : Nm) : Nm := nmOf (Txt.rjust x.1 16)
def nmCut (x : Nm) (lo hi : Option Int) : Nm := nmOf (cutS x.1 lo hi)
def nmDec (n : Int) : Nm := nmOf (Str.ofString (toString n))
def nmCom (n : Int) : Nm := nmOf (comT n)
def digs (n : Int) : List Nat := (Nat.toDigits 10 n.natAbs).map fun c => c.toNat
def grp : Nat → List Nat → List Nat → List Nat
  | 0, _, out => out
  | k + 1, rd, out => if rd.length ≤ 3 then rd.reverse ++ out else grp k (rd.drop 3) (44 :: ((rd.take 3).reverse ++ out))
end GL
namespace GL
open PySem L2 PySem.Spec PyProof.Rows TL
abbrev TLn := {x : Str // OkS x ∧ x.length ≤ 5000}
instance : Rpd TLn := ⟨fun x => .str x.1⟩
instance : Dt TLn where
  dep := 0
  dok x := x.2.1
  deq x y := by
    refine (eqv_str x.1 y.1).trans (decide_eq_decide.mpr ⟨fun h => Subtype.ext h, fun h => by rw [h]⟩)
instance : Nn TLn := ⟨fun x => by simp [Rpd.rp, D.eqv, D.py, PyData.eqv]⟩
instance {b : Bool} {ks : List Nat} : Only b ks TLn := ⟨fun _ => rfl⟩
def sp1 : Str := Str.ofString " "
theorem sp1_ok : OkS sp1 := by decide +kernel
theorem sp1_len : sp1.length = 1 := by decide +kernel
def lineOf (p q r : Nm) : TLn := ⟨p.1 ++ sp1 ++ q.1 ++ sp1 ++ r.1, (((p.2.1.app sp1_ok).app q.2.1).app sp1_ok).app r.2.1, by
  have := p.2.2
  have := q.2.2
  have := r.2.2
  rw [str_app_len, str_app_len, str_app_len, str_app_len, sp1_len]
  omega⟩
section
variable {X : Cx} {S : Sg} {Γ : Gm} {μ : Mem} {Q : QD} {e a b c : Expr} {pos : Pos}
def cm1 : Str := Str.ofString ","
def nmJnC (l : List Nm) : Nm := nmOf (Txt.join cm1 (l.map (·.1)))
end
end GL
namespace GL
open PySem L2 PySem.Spec PyProof.Rows
def hdlN (X : Cx) (S : Sg0) (E : EG) (suite : List Stmt) (c : Value) (q : QE) : QE := fun k ds μ => ∃ b, PySem.W.exmOne X.K (.ref (S.cls k)) c = some b ∧
  (b = true → ∀ (a dd : Addr) (oe : Obj) (pn : List (Addr × Obj)), Zc (.ref (S.cls k)) (some dd) oe → (∃ vs, oe.data = .fields vs) → BlG (X.suite a ((a, oe) :: pn)) S.nx suite (List.replicate X.N.length none) μ E) ∧ (b = false → q k ds μ)
section
variable {X : Cx} {S : Sg} {E : EG} {body : List Stmt} {Γ : Gm} {μ : Mem} {pos : Pos}
end
end GL
namespace L2
open PySem PySem.Spec PyProof.Rows
section
variable {X : Cx} {e : Expr} {te : TE} {p apos cpos pos : Pos}
end
end L2
namespace GL
open PySem L2 PySem.Spec PyProof.Rows
section
variable {X : Cx} {S : Sg} {Γ : Gm} {μ : Mem} {Q : QD} {e : Expr} {p apos cpos pos : Pos} {α : Type} [Rpd α]
end
end GL
namespace L2
open PySem PySem.Spec PyProof.Rows
section
variable {X : Cx}
def rEqR (K : PySem.W.Frag) : R2 := fun x y H Q => ∃ (a b : Addr) (as bs : List Addr), x = .ref a ∧ y = .ref b ∧ SqL K H a (as.map V.ref) ∧ SqL K H b (bs.map V.ref) ∧ as = bs ∧ Q (.bl true) H
def rNeR (K : PySem.W.Frag) : R2 := fun x y H Q => ∃ (a b : Addr) (as bs : List Addr), x = .ref a ∧ y = .ref b ∧ SqL K H a (as.map V.ref) ∧ SqL K H b (bs.map V.ref) ∧ ((as = bs ∧ Q (.bl false) H) ∨ (as.length ≠ bs.length ∧ Q (.bl true) H))
theorem same_refs {K : PySem.W.Frag} {H : Hp} : ∀ as : List Addr, Paired (EqV K H 1) (as.map V.ref) (as.map V.ref)
  | [] => .nil
  | c :: as => .cons (.inr (.inl ⟨c, rfl, rfl⟩)) (same_refs as)
theorem op_eqR (hu : X.A.units + 64 < cLine) : OpR X (compareOp .Eq) (rEqR X.K) := by
  intro pins s σ H x y v u Q I rx ry h
  obtain ⟨a, b, as, bs, rfl, rfl, ha, hb, rfl, q⟩ := h
  exact op_eqV hu pins s σ H _ _ v u Q I rx ry ⟨1, by decide, .inl ⟨a, b, _, _, rfl, rfl, ha, hb, same_refs as⟩, q⟩
end
end L2
namespace GL
open PySem L2 PySem.Spec PyProof.Rows
section
variable {X : Cx} {S : Sg} {Γ : Gm} {μ : Mem} {Q : QD} {E : EG} {sts : List Stmt} {pos : Pos} {x : Str} {as bs : List Addr} {l l' : List D}
inductive Adrd : D → Prop
  | obj (c : Nat) (l : List D) : Adrd (.obj c l)
  | tup (l : List D) : Adrd (.tup l)
theorem refs_of {S : Sg0} {H : Hp} : ∀ {l : List D} {xs : List V}, (∀ d ∈ l, Adrd d) → RpA S H xs l → ∃ as : List Addr, xs = as.map V.ref
  | [], _, _, h => by cases h; exact ⟨[], rfl⟩
  | d :: l, _, hd, h => by
    cases h with
    | @cons v vs _ _ r t =>
      obtain ⟨as, rfl⟩ := refs_of (fun d h => hd d (List.mem_cons_of_mem _ h)) t
      obtain ⟨b, rfl⟩ : ∃ b, v = .ref b := by
        cases hd d List.mem_cons_self with
        | obj c es => cases r; exact ⟨_, rfl⟩
        | tup es => cases r; exact ⟨_, rfl⟩
      exact ⟨b :: as, rfl⟩
end
end GL
namespace L2
open PySem PySem.Spec PyProof.Rows
section
variable {X : Cx} {e : Expr} {es : List Expr} {ta : TA} {p pos : Pos}
theorem pe_oex {CX : CXT} {x : Str} {C fI : Addr} {k : Nat} {fd : FuncData} {ps : List Str} {sp : Sp} {ds : List Value} {dvs : List V} (T : OexC X.K C) (iC : PySem.W.findIn X.K (.ref C) "__init__" = some (some (.ref fI))) (tI : PySem.W.typeIn X.K (.ref fI) = some (.type "function"))
    (F1 : FnOk X.prog X.w X.K X.mg X.base CX k fI fd ps sp) (hr : Room (k + 1) X.A) (hb : Binds X.K fd ps ds) (hd : Vals dvs ds) (hx : Passes CX X (fun _ _ _ => False)) (hg : Gl X x) (hm : X.mg x = some (.ref C)) (ha : PA X (e :: es) ta)
    (hdb : (x == ("__debug__" : Str)) = false := by decide) (he : starEach (e :: es) X.env = (false, eval e X.env) :: starEach es X.env := by rfl) (hpl : (backTo pos (starEach es X.env)).any (·.1) = false := by rfl) :
    PE X (.Call (.Name x p) (e :: es) [] pos) (fun σ H Q => ta σ H fun vs H1 => vs.length ≤ 1000 ∧ ∀ a, H1 a = none → sp (.ref a :: (vs ++ dvs)) (upd H1 a (exo a C none)) (fun v H2 => v = .non ∧ Q (.ref a) H2) (fun _ _ _ => False)) := by
  refine ⟨fun pins s σ H Q I h => ?_⟩
  obtain ⟨nm, q, N, bs, bm, sn, sub, ab, col, dd, k0, k1, k2, k3, k5, hC, hbm⟩ := T.cls
  refine wpAny_Call_Name_kw (ld_glob I hg hm ?_ hdb)
  refine PySem.W.callWith_K (h₀ := X.base) I.ok.mod.kin T.kC (thn (ha.run pos pins s σ H _ I h) fun us s1 ⟨vs, H1, I1, r1, hz, q1⟩ => ⟨I1.kIn, ?_⟩) he hpl
  show wpAny _ _ (call (.ref C) us) _ _ _
  obtain ⟨hp, g, dr, tk, os⟩ := s1
  have hsz : hp.objs.size ≤ hp.objs.size + 1 := Nat.le_succ _
  have hn : H1 (hp.objs.size + 1) = none := I1.hok.fresh hsz
  have hq := q1 (hp.objs.size + 1) hn
  have kk : ∀ b o, hp.get? b = some o → ((hp.push (PySem.W.kdv_tup us)).push (PySem.HandSPX.excO C hp.objs.size)).get? b = some o := fun b o e => Heap.get?_push_of_some _ (Heap.get?_push_of_some _ e)
  have hget : ((hp.push (PySem.W.kdv_tup us)).push (PySem.HandSPX.excO C hp.objs.size)).get? (hp.objs.size + 1) = some (PySem.HandSPX.excO C hp.objs.size) := by heap_get
  have I2 : Inv X pins σ (upd H1 (hp.objs.size + 1) (exo (hp.objs.size + 1) C none)) ⟨(hp.push (PySem.W.kdv_tup us)).push (PySem.HandSPX.excO C hp.objs.size), g, dr, tk, os⟩ :=
    I1.laid (t' := tk) (a := hp.objs.size + 1) (o := exo (hp.objs.size + 1) C none) (h' := (hp.push (PySem.W.kdv_tup us)).push (PySem.HandSPX.excO C hp.objs.size)) kk hsz (exo_ok hget)
  have r2 : Vals (V.ref (hp.objs.size + 1) :: (vs ++ dvs)) (Value.ref (hp.objs.size + 1) :: (us ++ ds)) := .cons rfl (r1.append hd)
  have hl : (Value.ref (hp.objs.size + 1) :: us ++ ds).length = ps.length := by
    have e := r2.length
    rw [F1.len _ _ _ _ hq] at e
    exact e.symm
  have hus : us.length ≤ sizeLine := by
    rw [← Paired.length r1, sizeLine_eq]
    omega
  refine wpAny_call (PySem.HandSPX.call_own F.excBase_ValueError (fun Y => PySem.HandSPX.refsVE_contains Y bm hbm) (I1.kIn _ _ hC) (PySem.W.looks_findIn I1.kIn iC) (fun self => PySem.W.bind_fn I1.kIn self tI) hus
    (codeAny_mono (F1.run _ X.stack _ _ ⟨Value.ref (hp.objs.size + 1) :: us, []⟩ (Value.ref (hp.objs.size + 1) :: (us ++ ds)) _ _ (fun _ _ _ => False) (hr.make C us []) (I2.env0.make C us []) (hb _ (Value.ref (hp.objs.size + 1) :: us) I2.kIn hl) r2 hq) fun r s' hq' => ?_))
  cases r with
  | error er => exact hx pins σ _ _ er s' I2 hq'
  | ok fl =>
    cases fl with
    | ret u =>
      obtain ⟨v, H2, os2, bare2, un2, hok2, rv, ev, q2⟩ := hq'
      subst ev
      obtain ⟨h2, g2, d2, t2, os'⟩ := s'
      have J : Inv X pins σ H2 ⟨h2, g2, d2, t2, os'⟩ := I2.call' (ch := []) os2 un2 hok2 bare2 (fun b z => absurd z (by simp))
      exact ⟨rv, .ref (hp.objs.size + 1), H2, J, rfl, q2⟩
    | next => exact False.elim hq'
    | brk => exact False.elim hq'
    | cont => exact False.elim hq'
def rIsX (K : PySem.W.Frag) : List V → Hp → VK → Prop := fun xs H Q => ∃ (a D dd : Addr) (fs : List (Str × V)) (c : V) (cv : Value) (b : Bool), xs = [.ref a, c] ∧ H a = some (exo a D (some dd)) ∧ H dd = some (exd dd fs) ∧ ExcC K D ∧ (∀ u, RelV c u → u = cv) ∧ PySem.W.kitOne K (.ref D) cv = some b ∧ Q (.bl b) H
theorem call_isX : CallR X (.builtin "isinstance") (rIsX X.K) := by
  intro pins s σ H xs us Q I r h
  obtain ⟨a, D, dd, fs, c, cv, b, rfl, ha, hd, C, hcv, e, q⟩ := h
  cases r with
  | cons rx rr =>
    cases rr with
    | cons rt rr =>
      cases rr
      cases rx
      have ec := hcv _ rt
      subst ec
      obtain ⟨t0, hget⟩ := exo_at I.hok ha
      obtain ⟨mA, hns, hr⟩ := exd_at I.hok hd
      obtain ⟨od, ho, hl⟩ := lookIn_ns hns
      have J : PySem.W.InstAt s.heap a _ D (some od) := ⟨hget, rfl, rfl, ho⟩
      have hcl : (PySem.W.clsIn X.K D).isSome = true := by
        obtain ⟨cd, hc, _⟩ := PySem.W.any_some C.hd
        rw [hc]
        rfl
      exact PySem.W.kia_one (PySem.W.kitx_exc hcl C.hg C.hk C.hs C.ha C.hn C.ht C.hm) I.kIn J e (fun z => nomatch z) fun tk => ⟨.bl b, H, I.kept (t' := tk) fun _ _ z => z, rfl, q⟩
def rNeL (K : PySem.W.Frag) : R2 := fun x y H Q => ∃ (a b : Addr) (xs ys : List V), x = .ref a ∧ y = .ref b ∧ SqL K H a xs ∧ SqL K H b ys ∧ xs.length ≠ ys.length ∧ Q (.bl true) H
theorem op_neLen (hu : X.A.units < cLine) : OpR X (compareOp .NotEq) (rNeL X.K) := by
  intro pins s σ H x y v u Q I rx ry h
  obtain ⟨a, b, xs, ys, rfl, rfl, ha, hb, hl, q⟩ := h
  cases (show v = Value.ref a from rx)
  cases (show u = Value.ref b from ry)
  obtain ⟨us, r1, p1, _⟩ := I.list ha
  obtain ⟨ws, r2, p2, _⟩ := I.list hb
  show wpAny (model X.prog X.w) X.A (richCompare .NotEq (.ref a) (.ref b)) _ _ s
  have e1 := r1.length
  have e2 := r2.length
  refine SeqAt.RcNeAt.lists_lengths p1.isList p2.isList (by rw [List.size_toArray, List.size_toArray]; simp; omega) hu X.prog X.w _ _ ?_
  exact ⟨.bl true, H, I, rfl, q⟩
def tXv (C : Addr) (f : Str) (te : TE) : TE := fun σ H Q => te σ H fun x H1 => ∃ (a dd : Addr) (fs : List (Str × V)) (v : V), x = .ref a ∧ H1 a = some (exo a C (some dd)) ∧ H1 dd = some (exd dd fs) ∧ fs.lookup f = some v ∧ Q v H1
theorem pe_xv {C : Addr} {te : TE} {n : Str} (T : XfC X.K C) (hno : PySem.W.findIn X.K (.ref C) n = some none) (he : PE X e te) (hb : attributeBase e n X.env (eval e X.env) = eval e X.env := by rfl) : PE X (.Attribute e n pos) (tXv C n te) := by
  refine ⟨fun pins s σ H Q I h => ?_⟩
  refine attr_of hb (thn (he.run pins s σ H _ I h) fun u s1 hh => ?_)
  obtain ⟨x, H1, I1, rx, a, dd, fs, v, ex, ea, ed, l, q⟩ := hh
  subst ex
  obtain rfl : u = Value.ref a := rx
  obtain ⟨t0, ha⟩ := exo_at I1.hok ea
  obtain ⟨mA, hns, hr⟩ := exd_at I1.hok ed
  obtain ⟨od, ho, hl⟩ := lookIn_ns hns
  obtain ⟨u, hu, ru⟩ := RelO.some_of (v := v) (o := mA n) (by rw [← l]; exact hr n)
  have J : PySem.W.InstAt s1.heap a _ C (some od) := ⟨ha, rfl, rfl, ho⟩
  exact HandSPX.exc_get I1.kIn J T.ga T.gg T.exC (PySem.W.findObj_own T.hdC hno rfl (by rw [hl, hu])) (handed_of ru) ⟨v, H1, I1.tok _, ru, q⟩
end
end L2
namespace GL
open PySem L2 PySem.Spec PyProof.Rows
theorem RpA.rev {S : Sg0} {H : Hp} : ∀ {vs : List V} {ds : List D}, RpA S H vs ds → RpA S H vs.reverse ds.reverse
  | _, _, .nil => .nil
  | _, _, .cons h t => by
    rw [List.reverse_cons, List.reverse_cons]
    exact (RpA.rev t).append (.cons h .nil)
section
variable {X : Cx} {S : Sg} {c : Nat} {fI : Addr} {fd : FuncData} {ps : List Str} {chk : List V → Prop} {x n : Str} {p pos : Pos} {e : Expr} {es : List Expr} {Γ : Gm} {μ : Mem} {Q : QD} {l : List D}
theorem exc_laid {S : Sg} {F N H1 H' : Hp} {vs : List V} {ds : List D} {a d : Addr} (r : RelM S F N H1 μ) (rv : RpA S (vis N H1 (adr μ)) vs ds) (hl : vs.length = (S.nms c).length) (ha : H1 a = none) (hd : upd H1 a (exo a (S.cls c) none) d = none) (hne : d ≠ a)
    (e1 : H' a = some (exo a (S.cls c) (some d))) (e2 : H' d = some (exd d ((S.nms c).zip vs))) (hk : ∀ b, b ≠ a → b ≠ d → H' b = upd H1 a (exo a (S.cls c) none) b) : RelM S F N H' μ ∧ Rp S (vis N H' (adr μ)) (.ref a) (.exc c ds) := by
  rw [upd_ne hne] at hd
  have e : H' = upd (upd H1 d (exd d ((S.nms c).zip vs))) a (exo a (S.cls c) (some d)) := by
    funext b
    by_cases hb : b = a
    · rw [hb, upd_same, e1]
    · rw [upd_ne hb]
      by_cases hbd : b = d
      · rw [hbd, upd_same, e2]
      · rw [upd_ne hbd, hk b hb hbd, upd_ne hb]
  have ha' : upd H1 d (exd d ((S.nms c).zip vs)) a = none := by rw [upd_ne (Ne.symm hne)]; exact ha
  have r2 := r.alloc (o := exd d ((S.nms c).zip vs)) hd
  have r3 := r2.alloc (o := exo a (S.cls c) (some d)) ha'
  have x1 := vis_new (o := exd d ((S.nms c).zip vs)) r.toRelM0 hd
  have x2 := vis_new (o := exo a (S.cls c) (some d)) r2.toRelM0 ha'
  rw [e]
  exact ⟨r3, .exc (alloc_at r2.toRelM0 ha') (x2 _ _ (alloc_at r.toRelM0 hd)) hl (rv.ext (x1.trans x2))⟩
theorem ev_mkX (R : ExcP X.prog X.w X.K X.mg X.base S c fI fd ps chk) (hr : Room 2 X.A) (hm : X.mg x = some (.ref (S.cls c)))
    (h : EvA X S (e :: es) Γ μ fun ds μ1 => ds.length = (S.nms c).length ∧ ds.length ≤ 1000 ∧ (∀ Hv vs, RpA S Hv vs ds → chk vs) ∧ Q (.exc c ds.reverse) μ1)
    (hg : Gl X x := by rfl) (hdb : (x == ("__debug__" : Str)) = false := by decide) (he : starEach (e :: es) X.env = (false, eval e X.env) :: starEach es X.env := by rfl) (hpl : (backTo pos (starEach es X.env)).any (·.1) = false := by rfl) : EvG X S (.Call (.Name x p) (e :: es) [] pos) Γ μ Q := by
  intro F N σ H r rs
  refine ex_of (pe_oex R.T R.iC R.tI R.F hr R.hb .nil pass0 hg hm pa_ex hdb he hpl) ?_
  refine h.use r rs fun vs H1 ds μ1 r1 rs1 rd ⟨q1, q2, q3, q4⟩ => ⟨by rw [rd.length]; exact q2, fun a ha => ?_⟩
  rw [List.append_nil]
  have hl : vs.length = (S.nms c).length := by rw [rd.length]; exact q1
  refine ⟨a, vs, rfl, hl, q3 _ _ rd, upd_same, fun d H' h1 h2 h3 h4 h5 => ⟨rfl, ?_⟩⟩
  obtain ⟨r2, rx⟩ := exc_laid (r1.weakF r.ext) rd.rev (by rw [List.length_reverse]; exact hl) ha h1 h2 h3 h4 h5
  exact ⟨.exc c ds.reverse, μ1, r2, rx, q4⟩
theorem cg_isX {a : Addr} {b : Bool} (C : ExcC X.K (S.cls c)) (hk : PySem.W.kitOne X.K (.ref (S.cls c)) (.ref a) = some b) (k : Q (.bl b) μ) : CallG X S (.builtin "isinstance") [.exc c l, .ref a] μ Q := fun F N H xs r rq => by
  obtain ⟨v, w, rfl, rv, rw'⟩ : ∃ v w, xs = [v, w] ∧ Rp S (vis N H (adr μ)) v (.exc c l) ∧ Rp S (vis N H (adr μ)) w (.ref a) := by
    cases rq with
    | cons h t =>
      cases t with
      | cons h2 t2 =>
        cases t2
        exact ⟨_, _, rfl, h, h2⟩
  cases rw'
  cases rv with
  | @exc z d _ vs _ h1 h2 hl hs =>
  refine cp_of call_isX ⟨z, _, d, _, _, .ref a, b, rfl, vis_le _ _ h1, vis_le _ _ h2, C, fun u h => h, hk, _, μ, r, .bl b, k⟩
theorem cg_isXt {a : String} {b : Bool} (C : ExcC X.K (S.cls c)) (hk : PySem.W.kitOne X.K (.ref (S.cls c)) (.type a) = some b) (k : Q (.bl b) μ) : CallG X S (.builtin "isinstance") [.exc c l, .ty a] μ Q := fun F N H xs r rq => by
  obtain ⟨v, w, rfl, rv, rw'⟩ : ∃ v w, xs = [v, w] ∧ Rp S (vis N H (adr μ)) v (.exc c l) ∧ Rp S (vis N H (adr μ)) w (.ty a) := by
    cases rq with
    | cons h t =>
      cases t with
      | cons h2 t2 =>
        cases t2
        exact ⟨_, _, rfl, h, h2⟩
  cases rw'
  cases rv with
  | @exc z d _ vs _ h1 h2 hl hs =>
  refine cp_of call_isX ⟨z, _, d, _, _, .type a, b, rfl, vis_le _ _ h1, vis_le _ _ h2, C, fun u h => h, hk, _, μ, r, .bl b, k⟩
theorem ev_xv (T : XfC X.K (S.cls c)) (hno : PySem.W.findIn X.K (.ref (S.cls c)) n = some none) (nd : (S.nms c).Nodup)
    (h : EvG X S e Γ μ fun d μ1 => ∃ (l : List D) (i : Nat) (y : D), d = .exc c l ∧ (S.nms c)[i]? = some n ∧ l[i]? = some y ∧ Q y μ1) (hb : attributeBase e n X.env (eval e X.env) = eval e X.env := by rfl) :
    EvG X S (.Attribute e n pos) Γ μ Q := by
  intro F N σ H r rs
  refine ex_of (pe_xv T hno pe_ex hb) (h.use r rs fun v H1 d μ1 r1 rs1 rd ⟨l, i, y, e1, e2, e3, q⟩ => ?_)
  subst e1
  cases rd with
  | @exc z dd _ vs _ h1 h2 hl hs =>
  obtain ⟨w, hw, rw'⟩ := hs.get e3
  exact ⟨z, dd, _, w, rfl, vis_le _ _ h1, vis_le _ _ h2, lookup_zip nd e2 hw, y, μ1, r1.weakF r.ext, rw', q⟩
theorem xev {P : D → Prop} {i : Nat} (y : D) (h1 : (S.nms c)[i]? = some n) (h2 : l[i]? = some y) (k : P y) : ∃ (l' : List D) (i : Nat) (y : D), D.exc c l = .exc c l' ∧ (S.nms c)[i]? = some n ∧ l'[i]? = some y ∧ P y := ⟨l, i, y, rfl, h1, h2, k⟩
end
def spNv (S : Sg0) (c : Nat) : Sp := fun vs H Q _ => ∃ (a b : Addr) (xs : List V), vs = [.ref a, .ref b] ∧ (SqL S.K H b xs ∨ SqT S.K H b xs) ∧ H a = some (exo a (S.cls c) none) ∧
  ∀ (d q : Addr) (H' : Hp), H d = none → d ≠ a → H q = none → q ≠ a → q ≠ d → H' a = some (exo a (S.cls c) (some d)) → H' d = some (exd d ((S.nms c).zip [V.ref q])) → H' q = some (.lst xs) → (∀ b, b ≠ a → b ≠ d → b ≠ q → H' b = H b) → Q .non H'
structure NvP (P : Program) (w : World) (K : PySem.W.Frag) (mg : Str → Option Value) (base : Heap) (S : Sg0) (c : Nat) (fI : Addr) (fd : FuncData) (ps : List Str) : Prop where
  T : OexC K (S.cls c)
  iC : PySem.W.findIn K (.ref (S.cls c)) "__init__" = some (some (.ref fI))
  tI : PySem.W.typeIn K (.ref fI) = some (.type "function")
  hb : Binds K fd ps []
  F : FnOk P w K mg base CX0 1 fI fd ps (spNv S c)
section
variable {X : Cx} {S : Sg} {c : Nat} {fI : Addr} {fd : FuncData} {ps : List Str} {x : Str} {p pos : Pos} {e : Expr} {es : List Expr} {Γ : Gm} {μ : Mem} {Q : QD} {l : List D}
theorem nv_laid {S : Sg} {F N H1 H' : Hp} {xs : List V} {l : List D} {a d q : Addr} (r : RelM S F N H1 μ) (rv : RpA S (vis N H1 (adr μ)) xs l) (hl : (S.nms c).length = 1) (ha : H1 a = none) (hd : upd H1 a (exo a (S.cls c) none) d = none) (hne : d ≠ a)
    (hq : upd H1 a (exo a (S.cls c) none) q = none) (hqa : q ≠ a) (hqd : q ≠ d) (e1 : H' a = some (exo a (S.cls c) (some d))) (e2 : H' d = some (exd d ((S.nms c).zip [V.ref q]))) (e3 : H' q = some (.lst xs)) (hk : ∀ b, b ≠ a → b ≠ d → b ≠ q → H' b = upd H1 a (exo a (S.cls c) none) b) :
    RelM S F N H' μ ∧ Rp S (vis N H' (adr μ)) (.ref a) (.exc c [.lst l]) := by
  rw [upd_ne hne] at hd
  rw [upd_ne hqa] at hq
  have e : H' = upd (upd (upd H1 q (.lst xs)) d (exd d ((S.nms c).zip [V.ref q]))) a (exo a (S.cls c) (some d)) := by
    funext b
    by_cases hb : b = a
    · rw [hb, upd_same, e1]
    · rw [upd_ne hb]
      by_cases hbd : b = d
      · rw [hbd, upd_same, e2]
      · rw [upd_ne hbd]
        by_cases hbq : b = q
        · rw [hbq, upd_same, e3]
        · rw [upd_ne hbq, hk b hb hbd hbq, upd_ne hb]
  have hd' : upd H1 q (HO.lst xs) d = none := by rw [upd_ne (Ne.symm hqd)]; exact hd
  have ha' : upd (upd H1 q (HO.lst xs)) d (exd d ((S.nms c).zip [V.ref q])) a = none := by rw [upd_ne (Ne.symm hne), upd_ne (Ne.symm hqa)]; exact ha
  have r1 := r.alloc (o := HO.lst xs) hq
  have r2 := r1.alloc (o := exd d ((S.nms c).zip [V.ref q])) hd'
  have r3 := r2.alloc (o := exo a (S.cls c) (some d)) ha'
  have x0 := vis_new (o := HO.lst xs) r.toRelM0 hq
  have x1 := vis_new (o := exd d ((S.nms c).zip [V.ref q])) r1.toRelM0 hd'
  have x2 := vis_new (o := exo a (S.cls c) (some d)) r2.toRelM0 ha'
  rw [e]
  exact ⟨r3, .exc (alloc_at r2.toRelM0 ha') (x2 _ _ (alloc_at r1.toRelM0 hd')) (by rw [hl]; rfl) (.cons (.lst (x2 _ _ (x1 _ _ (alloc_at r.toRelM0 hq))) (rv.ext (x0.trans (x1.trans x2)))) .nil)⟩
theorem ext_upd {H : Hp} {a : Addr} {o : HO} (h : H a = none) : Ex H (upd H a o) := fun b u e => by rw [upd_ne (ne_of_none e h)]; exact e
theorem ev_mkNv (R : NvP X.prog X.w X.K X.mg X.base S c fI fd ps) (hl : (S.nms c).length = 1) (hr : Room 2 X.A) (hm : X.mg x = some (.ref (S.cls c))) (h : EvA X S [e] Γ μ fun ds μ1 => ∃ d l, ds = [d] ∧ DrfT μ1 d l ∧ Q (.exc c [.lst l]) μ1)
    (hK : X.K = S.K := by rfl) (hg : Gl X x := by rfl) (hdb : (x == ("__debug__" : Str)) = false := by decide) (he : starEach [e] X.env = (false, eval e X.env) :: starEach [] X.env := by rfl) (hpl : (backTo pos (starEach [] X.env)).any (·.1) = false := by rfl) : EvG X S (.Call (.Name x p) [e] [] pos) Γ μ Q := by
  intro F N σ H r rs
  refine ex_of (pe_oex R.T R.iC R.tI R.F hr R.hb .nil pass0 hg hm pa_ex hdb he hpl) ?_
  refine h.use r rs fun vs H1 ds μ1 r1 rs1 rd ⟨d0, l, e0, hdr, q4⟩ => ?_
  subst e0
  obtain ⟨v, rfl, rv⟩ := rd.one
  obtain ⟨b, xs, rfl, hs, hxs⟩ := sq_at hK hdr r1 rv
  rw [hK] at hs
  refine ⟨by show 1 ≤ 1000; decide, fun a ha => ?_⟩
  rw [List.append_nil]
  refine ⟨a, b, xs, rfl, hs.imp (fun z => (ext_upd ha).l z) (fun z => (ext_upd ha).t z), upd_same, fun d q H' h1 h2 h3 h4 h5 h6 h7 h8 h9 => ⟨rfl, ?_⟩⟩
  obtain ⟨r2, rx⟩ := nv_laid (r1.weakF r.ext) hxs hl ha h1 h2 h3 h4 h5 h6 h7 h8 h9
  exact ⟨_, μ1, r2, rx, q4⟩
end
def zipI (as : List Addr) (l : List D) : List D := List.zipWith D.idn as l
section
variable {X : Cx} {S : Sg} {Γ : Gm} {μ : Mem} {Q : QD} {E : EG} {sts : List Stmt} {as : List Addr} {l : List D} {d e : D}
theorem zipI_rp {S : Sg0} {H : Hp} : ∀ {as : List Addr} {l : List D}, RpA S H (as.map V.ref) l → RpA S H (as.map V.ref) (zipI as l)
  | [], _, h => by cases h; exact .nil
  | a :: as, _, h => by
    cases h with
    | cons h t => exact .cons (.idn h) (zipI_rp t)
theorem zipI_refs {S : Sg0} {H : Hp} : ∀ {as : List Addr} {l : List D} {xs : List V}, as.length = l.length → RpA S H xs (zipI as l) → xs = as.map V.ref
  | [], _, _, _, h => by cases h; rfl
  | a :: as, [], _, e, _ => by simp at e
  | a :: as, d :: l, _, e, h => by
    cases h with
    | cons h t =>
      cases h with
      | idn h => rw [zipI_refs (by simpa using e) t]; rfl
theorem bl_adrM (a : Addr) (l : List D) (μ' : List Addr → Mem) (ho : ∀ d ∈ l, Adrd d) (u : ∀ as, Upd a (.lst l) (.lst (zipI as l)) μ (μ' as)) (h : ∀ as, as.length = l.length → BlG X S sts Γ (μ' as) E) : BlG X S sts Γ μ E := fun F N σ H r rs => by
  obtain ⟨o, e1, hm⟩ := r.toRelM0.find (u []).mem
  cases hm with
  | @lst _ xs hs =>
  obtain ⟨as, rfl⟩ := refs_of ho hs
  have e : upd H a (HO.lst (as.map V.ref)) = H := by
    funext b
    by_cases hb : b = a
    · rw [hb, upd_same, e1]
    · rw [upd_ne hb]
  have r' := r.put (u as) (.lst (zipI_rp hs))
  rw [e] at r'
  have ea := (u as).adr
  exact h as (by have := hs.length; rwa [List.length_map] at this) F N σ H r' (by rw [ea]; exact rs)
theorem op_eqI (hu : X.A.units + 65 < cLine) (as : List Addr) (l l' : List D) (h1 : Drf μ d (zipI as l)) (h2 : Drf μ e (zipI as l')) (e1 : as.length = l.length) (e2 : as.length = l'.length) (k : Q (.bl true) μ) (hK : X.K = S.K := by rfl) : OpG X S (compareOp .Eq) d e μ Q := fun F N H u v r ru rv => by
  obtain ⟨a, xs, rfl, ha, hs⟩ := h1.at r.toRelM0 ru
  obtain ⟨b, ys, rfl, hb, ht⟩ := h2.at r.toRelM0 rv
  have x1 := zipI_refs e1 hs
  have x2 := zipI_refs e2 ht
  subst x1 x2
  exact op_of (op_eqR (by omega)) ⟨a, b, as, as, rfl, rfl, SqL.of ha, SqL.of hb, rfl, _, μ, r, .bl _, k⟩
theorem op_neL (hu : X.A.units + 65 < cLine) (l l' : List D) (h1 : Drf μ d l) (h2 : Drf μ e l') (hl : l.length ≠ l'.length) (k : Q (.bl true) μ) : OpG X S (compareOp .NotEq) d e μ Q := fun F N H u v r ru rv => by
  obtain ⟨a, xs, rfl, ha, hs⟩ := h1.at r.toRelM0 ru
  obtain ⟨b, ys, rfl, hb, ht⟩ := h2.at r.toRelM0 rv
  refine op_of (op_neLen (by omega)) ⟨a, b, xs, ys, rfl, rfl, SqL.of ha, SqL.of hb, by rw [hs.length, ht.length]; exact hl, _, μ, r, .bl _, k⟩
end
section
variable {X : Cx} {S : Sg} {o e : Expr} {Γ : Gm} {μ : Mem} {E : EG} {sts : List Stmt} {apos cpos pos : Pos}
theorem appD {a : Addr} {l0 : List D} (ho : ∀ {Q : QD}, Q (.ref a) μ → EvG X S o Γ μ Q) (hm : (a, M.lst l0) ∈ μ)
    (he : EvG X S e Γ μ fun d μ2 => ∃ (l : List D) (μ3 : Mem), l.length < 16777216 ∧ Upd a (.lst l) (.lst (l ++ [d])) μ2 μ3 ∧ BlG X S sts Γ μ3 E)
    (hbase : attributeBase o "append" X.env (eval o X.env) = eval o X.env := by rfl)
    (hs : notStar e = true := by rfl) (hline : (apos.endLine == cpos.line) = true := by rfl) : BlG X S (.Expr (.Call (.Attribute o "append" apos) [e] [] cpos) pos :: sts) Γ μ E := by
  refine exF <| ev_app (ho ⟨a, rfl, ⟨_, hm⟩, ea_c ?_ hs⟩) hbase (by rw [star_cs hs]; rfl) hline (star_cs hs) rfl
  exact he.mono fun d μ2 ⟨l, μ3, h2, h3, h4⟩ => ea_nil ⟨d, l, μ3, rfl, h3, h2, h4⟩
end
end GL
namespace K01
open PySem L2 GL
structure Ad where
  C_Hold : Addr
  C_Repeated : Addr
  C_Unknown : Addr
  C_NoStep : Addr
  C_BadCount : Addr
  C_Lacking : Addr
  C_Shut : Addr
  C_Unmet : Addr
  C_Never : Addr
  C_YardError : Addr
  f_Repeated_init : Addr
  fd_Repeated_init : FuncData
  cda_Repeated_init : Addr
  cc_Repeated_init : Addr
  f_Unknown_init : Addr
  fd_Unknown_init : FuncData
  cda_Unknown_init : Addr
  cc_Unknown_init : Addr
  f_NoStep_init : Addr
  fd_NoStep_init : FuncData
  cda_NoStep_init : Addr
  cc_NoStep_init : Addr
  f_BadCount_init : Addr
  fd_BadCount_init : FuncData
  cda_BadCount_init : Addr
  cc_BadCount_init : Addr
  f_Lacking_init : Addr
  fd_Lacking_init : FuncData
  cda_Lacking_init : Addr
  cc_Lacking_init : Addr
  f_Shut_init : Addr
  fd_Shut_init : FuncData
  cda_Shut_init : Addr
  cc_Shut_init : Addr
  f_Unmet_init : Addr
  fd_Unmet_init : FuncData
  cda_Unmet_init : Addr
  cc_Unmet_init : Addr
  f_Never_init : Addr
  fd_Never_init : FuncData
  cda_Never_init : Addr
  cc_Never_init : Addr
  f_Hold_init : Addr
  fd_Hold_init : FuncData
  t_Hold_init : Addr
  f_law_pool : Addr
  fd_law_pool : FuncData
  f_law_take : Addr
  fd_law_take : FuncData
  f_law_base : Addr
  fd_law_base : FuncData
  f_law_name : Addr
  fd_law_name : FuncData
  f_law_is_only : Addr
  fd_law_is_only : FuncData
  f_law : Addr
  fd_law : FuncData
structure Tx (P : Program) (K : PySem.W.Frag) (mg : Str → Option Value) (a : Ad) : Prop where
  cl_Hold : Cls K a.C_Hold
  is_Hold : IsC K a.C_Hold
  mk_Hold : Mk K a.C_Hold a.f_Hold_init
  mgC_Hold : mg "Hold" = some (.ref a.C_Hold)
  sf_Hold : PySem.W.selfFirst K a.C_Hold = true
  nf_Hold : PySem.W.notFirst K a.C_Hold (.ref a.C_Hold) = true
  nfl_Hold : PySem.W.notFirst K a.C_Hold (.type "list") = true
  ki_Hold : PySem.W.kitOne K (.ref a.C_Hold) (.ref a.C_Hold) = some true
  kl_Hold : PySem.W.kitOne K (.type "list") (.ref a.C_Hold) = some false
  na_Hold_rows : NoAttr K a.C_Hold "rows"
  ec_Repeated : ExcCls K a.C_Repeated
  mgC_Repeated : mg "Repeated" = some (.ref a.C_Repeated)
  xf_Repeated : XfC K a.C_Repeated
  na_Repeated_name : PySem.W.findIn K (.ref a.C_Repeated) "name" = some none
  xc_Repeated : ExcC K a.C_Repeated
  kv_Repeated : PySem.W.kitOne K (.ref a.C_Repeated) (.type "ValueError") = some true
  kx_Repeated_Repeated : PySem.W.kitOne K (.ref a.C_Repeated) (.ref a.C_Repeated) = some true
  kx_Repeated_Unknown : PySem.W.kitOne K (.ref a.C_Repeated) (.ref a.C_Unknown) = some false
  kx_Repeated_NoStep : PySem.W.kitOne K (.ref a.C_Repeated) (.ref a.C_NoStep) = some false
  kx_Repeated_BadCount : PySem.W.kitOne K (.ref a.C_Repeated) (.ref a.C_BadCount) = some false
  kx_Repeated_Lacking : PySem.W.kitOne K (.ref a.C_Repeated) (.ref a.C_Lacking) = some false
  kx_Repeated_Shut : PySem.W.kitOne K (.ref a.C_Repeated) (.ref a.C_Shut) = some false
  kx_Repeated_Unmet : PySem.W.kitOne K (.ref a.C_Repeated) (.ref a.C_Unmet) = some false
  kx_Repeated_Never : PySem.W.kitOne K (.ref a.C_Repeated) (.ref a.C_Never) = some false
  kx_Repeated_YardError : PySem.W.kitOne K (.ref a.C_Repeated) (.ref a.C_YardError) = some true
  ec_Unknown : ExcCls K a.C_Unknown
  mgC_Unknown : mg "Unknown" = some (.ref a.C_Unknown)
  xf_Unknown : XfC K a.C_Unknown
  na_Unknown_name : PySem.W.findIn K (.ref a.C_Unknown) "name" = some none
  xc_Unknown : ExcC K a.C_Unknown
  kv_Unknown : PySem.W.kitOne K (.ref a.C_Unknown) (.type "ValueError") = some true
  kx_Unknown_Repeated : PySem.W.kitOne K (.ref a.C_Unknown) (.ref a.C_Repeated) = some false
  kx_Unknown_Unknown : PySem.W.kitOne K (.ref a.C_Unknown) (.ref a.C_Unknown) = some true
  kx_Unknown_NoStep : PySem.W.kitOne K (.ref a.C_Unknown) (.ref a.C_NoStep) = some false
  kx_Unknown_BadCount : PySem.W.kitOne K (.ref a.C_Unknown) (.ref a.C_BadCount) = some false
  kx_Unknown_Lacking : PySem.W.kitOne K (.ref a.C_Unknown) (.ref a.C_Lacking) = some false
  kx_Unknown_Shut : PySem.W.kitOne K (.ref a.C_Unknown) (.ref a.C_Shut) = some false
  kx_Unknown_Unmet : PySem.W.kitOne K (.ref a.C_Unknown) (.ref a.C_Unmet) = some false
  kx_Unknown_Never : PySem.W.kitOne K (.ref a.C_Unknown) (.ref a.C_Never) = some false
  kx_Unknown_YardError : PySem.W.kitOne K (.ref a.C_Unknown) (.ref a.C_YardError) = some true
  ec_NoStep : ExcCls K a.C_NoStep
  mgC_NoStep : mg "NoStep" = some (.ref a.C_NoStep)
  xf_NoStep : XfC K a.C_NoStep
  na_NoStep_before : PySem.W.findIn K (.ref a.C_NoStep) "before" = some none
  na_NoStep_after : PySem.W.findIn K (.ref a.C_NoStep) "after" = some none
  xc_NoStep : ExcC K a.C_NoStep
  kv_NoStep : PySem.W.kitOne K (.ref a.C_NoStep) (.type "ValueError") = some true
  kx_NoStep_Repeated : PySem.W.kitOne K (.ref a.C_NoStep) (.ref a.C_Repeated) = some false
  kx_NoStep_Unknown : PySem.W.kitOne K (.ref a.C_NoStep) (.ref a.C_Unknown) = some false
  kx_NoStep_NoStep : PySem.W.kitOne K (.ref a.C_NoStep) (.ref a.C_NoStep) = some true
  kx_NoStep_BadCount : PySem.W.kitOne K (.ref a.C_NoStep) (.ref a.C_BadCount) = some false
  kx_NoStep_Lacking : PySem.W.kitOne K (.ref a.C_NoStep) (.ref a.C_Lacking) = some false
  kx_NoStep_Shut : PySem.W.kitOne K (.ref a.C_NoStep) (.ref a.C_Shut) = some false
  kx_NoStep_Unmet : PySem.W.kitOne K (.ref a.C_NoStep) (.ref a.C_Unmet) = some false
  kx_NoStep_Never : PySem.W.kitOne K (.ref a.C_NoStep) (.ref a.C_Never) = some false
  kx_NoStep_YardError : PySem.W.kitOne K (.ref a.C_NoStep) (.ref a.C_YardError) = some true
  ec_BadCount : ExcCls K a.C_BadCount
  mgC_BadCount : mg "BadCount" = some (.ref a.C_BadCount)
  xf_BadCount : XfC K a.C_BadCount
  na_BadCount_count : PySem.W.findIn K (.ref a.C_BadCount) "count" = some none
  xc_BadCount : ExcC K a.C_BadCount
  kv_BadCount : PySem.W.kitOne K (.ref a.C_BadCount) (.type "ValueError") = some true
  kx_BadCount_Repeated : PySem.W.kitOne K (.ref a.C_BadCount) (.ref a.C_Repeated) = some false
  kx_BadCount_Unknown : PySem.W.kitOne K (.ref a.C_BadCount) (.ref a.C_Unknown) = some false
  kx_BadCount_NoStep : PySem.W.kitOne K (.ref a.C_BadCount) (.ref a.C_NoStep) = some false
  kx_BadCount_BadCount : PySem.W.kitOne K (.ref a.C_BadCount) (.ref a.C_BadCount) = some true
  kx_BadCount_Lacking : PySem.W.kitOne K (.ref a.C_BadCount) (.ref a.C_Lacking) = some false
  kx_BadCount_Shut : PySem.W.kitOne K (.ref a.C_BadCount) (.ref a.C_Shut) = some false
  kx_BadCount_Unmet : PySem.W.kitOne K (.ref a.C_BadCount) (.ref a.C_Unmet) = some false
  kx_BadCount_Never : PySem.W.kitOne K (.ref a.C_BadCount) (.ref a.C_Never) = some false
  kx_BadCount_YardError : PySem.W.kitOne K (.ref a.C_BadCount) (.ref a.C_YardError) = some true
  ec_Lacking : ExcCls K a.C_Lacking
  mgC_Lacking : mg "Lacking" = some (.ref a.C_Lacking)
  xf_Lacking : XfC K a.C_Lacking
  na_Lacking_kind : PySem.W.findIn K (.ref a.C_Lacking) "kind" = some none
  na_Lacking_standing : PySem.W.findIn K (.ref a.C_Lacking) "standing" = some none
  xc_Lacking : ExcC K a.C_Lacking
  kv_Lacking : PySem.W.kitOne K (.ref a.C_Lacking) (.type "ValueError") = some true
  kx_Lacking_Repeated : PySem.W.kitOne K (.ref a.C_Lacking) (.ref a.C_Repeated) = some false
  kx_Lacking_Unknown : PySem.W.kitOne K (.ref a.C_Lacking) (.ref a.C_Unknown) = some false
  kx_Lacking_NoStep : PySem.W.kitOne K (.ref a.C_Lacking) (.ref a.C_NoStep) = some false
  kx_Lacking_BadCount : PySem.W.kitOne K (.ref a.C_Lacking) (.ref a.C_BadCount) = some false
  kx_Lacking_Lacking : PySem.W.kitOne K (.ref a.C_Lacking) (.ref a.C_Lacking) = some true
  kx_Lacking_Shut : PySem.W.kitOne K (.ref a.C_Lacking) (.ref a.C_Shut) = some false
  kx_Lacking_Unmet : PySem.W.kitOne K (.ref a.C_Lacking) (.ref a.C_Unmet) = some false
  kx_Lacking_Never : PySem.W.kitOne K (.ref a.C_Lacking) (.ref a.C_Never) = some false
  kx_Lacking_YardError : PySem.W.kitOne K (.ref a.C_Lacking) (.ref a.C_YardError) = some true
  ec_Shut : ExcCls K a.C_Shut
  mgC_Shut : mg "Shut" = some (.ref a.C_Shut)
  xf_Shut : XfC K a.C_Shut
  na_Shut_door : PySem.W.findIn K (.ref a.C_Shut) "door" = some none
  xc_Shut : ExcC K a.C_Shut
  kv_Shut : PySem.W.kitOne K (.ref a.C_Shut) (.type "ValueError") = some true
  kx_Shut_Repeated : PySem.W.kitOne K (.ref a.C_Shut) (.ref a.C_Repeated) = some false
  kx_Shut_Unknown : PySem.W.kitOne K (.ref a.C_Shut) (.ref a.C_Unknown) = some false
  kx_Shut_NoStep : PySem.W.kitOne K (.ref a.C_Shut) (.ref a.C_NoStep) = some false
  kx_Shut_BadCount : PySem.W.kitOne K (.ref a.C_Shut) (.ref a.C_BadCount) = some false
  kx_Shut_Lacking : PySem.W.kitOne K (.ref a.C_Shut) (.ref a.C_Lacking) = some false
  kx_Shut_Shut : PySem.W.kitOne K (.ref a.C_Shut) (.ref a.C_Shut) = some true
  kx_Shut_Unmet : PySem.W.kitOne K (.ref a.C_Shut) (.ref a.C_Unmet) = some false
  kx_Shut_Never : PySem.W.kitOne K (.ref a.C_Shut) (.ref a.C_Never) = some false
  kx_Shut_YardError : PySem.W.kitOne K (.ref a.C_Shut) (.ref a.C_YardError) = some true
  ec_Unmet : ExcCls K a.C_Unmet
  mgC_Unmet : mg "Unmet" = some (.ref a.C_Unmet)
  xf_Unmet : XfC K a.C_Unmet
  na_Unmet_kind : PySem.W.findIn K (.ref a.C_Unmet) "kind" = some none
  na_Unmet_standing : PySem.W.findIn K (.ref a.C_Unmet) "standing" = some none
  na_Unmet_door : PySem.W.findIn K (.ref a.C_Unmet) "door" = some none
  xc_Unmet : ExcC K a.C_Unmet
  kv_Unmet : PySem.W.kitOne K (.ref a.C_Unmet) (.type "ValueError") = some true
  kx_Unmet_Repeated : PySem.W.kitOne K (.ref a.C_Unmet) (.ref a.C_Repeated) = some false
  kx_Unmet_Unknown : PySem.W.kitOne K (.ref a.C_Unmet) (.ref a.C_Unknown) = some false
  kx_Unmet_NoStep : PySem.W.kitOne K (.ref a.C_Unmet) (.ref a.C_NoStep) = some false
  kx_Unmet_BadCount : PySem.W.kitOne K (.ref a.C_Unmet) (.ref a.C_BadCount) = some false
  kx_Unmet_Lacking : PySem.W.kitOne K (.ref a.C_Unmet) (.ref a.C_Lacking) = some false
  kx_Unmet_Shut : PySem.W.kitOne K (.ref a.C_Unmet) (.ref a.C_Shut) = some false
  kx_Unmet_Unmet : PySem.W.kitOne K (.ref a.C_Unmet) (.ref a.C_Unmet) = some true
  kx_Unmet_Never : PySem.W.kitOne K (.ref a.C_Unmet) (.ref a.C_Never) = some false
  kx_Unmet_YardError : PySem.W.kitOne K (.ref a.C_Unmet) (.ref a.C_YardError) = some true
  ec_Never : ExcCls K a.C_Never
  mgC_Never : mg "Never" = some (.ref a.C_Never)
  xf_Never : XfC K a.C_Never
  na_Never_closed : PySem.W.findIn K (.ref a.C_Never) "closed" = some none
  xc_Never : ExcC K a.C_Never
  kv_Never : PySem.W.kitOne K (.ref a.C_Never) (.type "ValueError") = some true
  kx_Never_Repeated : PySem.W.kitOne K (.ref a.C_Never) (.ref a.C_Repeated) = some false
  kx_Never_Unknown : PySem.W.kitOne K (.ref a.C_Never) (.ref a.C_Unknown) = some false
  kx_Never_NoStep : PySem.W.kitOne K (.ref a.C_Never) (.ref a.C_NoStep) = some false
  kx_Never_BadCount : PySem.W.kitOne K (.ref a.C_Never) (.ref a.C_BadCount) = some false
  kx_Never_Lacking : PySem.W.kitOne K (.ref a.C_Never) (.ref a.C_Lacking) = some false
  kx_Never_Shut : PySem.W.kitOne K (.ref a.C_Never) (.ref a.C_Shut) = some false
  kx_Never_Unmet : PySem.W.kitOne K (.ref a.C_Never) (.ref a.C_Unmet) = some false
  kx_Never_Never : PySem.W.kitOne K (.ref a.C_Never) (.ref a.C_Never) = some true
  kx_Never_YardError : PySem.W.kitOne K (.ref a.C_Never) (.ref a.C_YardError) = some true
  mgC_YardError : mg "YardError" = some (.ref a.C_YardError)
  F_Repeated_init : FunS P K "__init__" "Repeated.__init__" (defArgs s_Repeated_init) (defBody s_Repeated_init) (defScope s_Repeated_init) a.f_Repeated_init a.fd_Repeated_init a.C_Repeated a.cda_Repeated_init a.cc_Repeated_init
  b_Repeated_init : Binds K a.fd_Repeated_init ["self", "name"] []
  at_Repeated_init : PySem.W.findIn K (.ref a.C_Repeated) "__init__" = some (some (.ref a.f_Repeated_init))
  ti_Repeated_init : PySem.W.typeIn K (.ref a.f_Repeated_init) = some (.type "function")
  F_Unknown_init : FunS P K "__init__" "Unknown.__init__" (defArgs s_Unknown_init) (defBody s_Unknown_init) (defScope s_Unknown_init) a.f_Unknown_init a.fd_Unknown_init a.C_Unknown a.cda_Unknown_init a.cc_Unknown_init
  b_Unknown_init : Binds K a.fd_Unknown_init ["self", "name"] []
  at_Unknown_init : PySem.W.findIn K (.ref a.C_Unknown) "__init__" = some (some (.ref a.f_Unknown_init))
  ti_Unknown_init : PySem.W.typeIn K (.ref a.f_Unknown_init) = some (.type "function")
  F_NoStep_init : FunS P K "__init__" "NoStep.__init__" (defArgs s_NoStep_init) (defBody s_NoStep_init) (defScope s_NoStep_init) a.f_NoStep_init a.fd_NoStep_init a.C_NoStep a.cda_NoStep_init a.cc_NoStep_init
  b_NoStep_init : Binds K a.fd_NoStep_init ["self", "before", "after"] []
  at_NoStep_init : PySem.W.findIn K (.ref a.C_NoStep) "__init__" = some (some (.ref a.f_NoStep_init))
  ti_NoStep_init : PySem.W.typeIn K (.ref a.f_NoStep_init) = some (.type "function")
  F_BadCount_init : FunS P K "__init__" "BadCount.__init__" (defArgs s_BadCount_init) (defBody s_BadCount_init) (defScope s_BadCount_init) a.f_BadCount_init a.fd_BadCount_init a.C_BadCount a.cda_BadCount_init a.cc_BadCount_init
  b_BadCount_init : Binds K a.fd_BadCount_init ["self", "count"] []
  at_BadCount_init : PySem.W.findIn K (.ref a.C_BadCount) "__init__" = some (some (.ref a.f_BadCount_init))
  ti_BadCount_init : PySem.W.typeIn K (.ref a.f_BadCount_init) = some (.type "function")
  F_Lacking_init : FunS P K "__init__" "Lacking.__init__" (defArgs s_Lacking_init) (defBody s_Lacking_init) (defScope s_Lacking_init) a.f_Lacking_init a.fd_Lacking_init a.C_Lacking a.cda_Lacking_init a.cc_Lacking_init
  b_Lacking_init : Binds K a.fd_Lacking_init ["self", "kind", "standing"] []
  at_Lacking_init : PySem.W.findIn K (.ref a.C_Lacking) "__init__" = some (some (.ref a.f_Lacking_init))
  ti_Lacking_init : PySem.W.typeIn K (.ref a.f_Lacking_init) = some (.type "function")
  F_Shut_init : FunS P K "__init__" "Shut.__init__" (defArgs s_Shut_init) (defBody s_Shut_init) (defScope s_Shut_init) a.f_Shut_init a.fd_Shut_init a.C_Shut a.cda_Shut_init a.cc_Shut_init
  b_Shut_init : Binds K a.fd_Shut_init ["self", "door"] []
  at_Shut_init : PySem.W.findIn K (.ref a.C_Shut) "__init__" = some (some (.ref a.f_Shut_init))
  ti_Shut_init : PySem.W.typeIn K (.ref a.f_Shut_init) = some (.type "function")
  F_Unmet_init : FunS P K "__init__" "Unmet.__init__" (defArgs s_Unmet_init) (defBody s_Unmet_init) (defScope s_Unmet_init) a.f_Unmet_init a.fd_Unmet_init a.C_Unmet a.cda_Unmet_init a.cc_Unmet_init
  b_Unmet_init : Binds K a.fd_Unmet_init ["self", "kind", "standing", "door"] []
  at_Unmet_init : PySem.W.findIn K (.ref a.C_Unmet) "__init__" = some (some (.ref a.f_Unmet_init))
  ti_Unmet_init : PySem.W.typeIn K (.ref a.f_Unmet_init) = some (.type "function")
  F_Never_init : FunS P K "__init__" "Never.__init__" (defArgs s_Never_init) (defBody s_Never_init) (defScope s_Never_init) a.f_Never_init a.fd_Never_init a.C_Never a.cda_Never_init a.cc_Never_init
  b_Never_init : Binds K a.fd_Never_init ["self", "closed"] []
  at_Never_init : PySem.W.findIn K (.ref a.C_Never) "__init__" = some (some (.ref a.f_Never_init))
  ti_Never_init : PySem.W.typeIn K (.ref a.f_Never_init) = some (.type "function")
  F_Hold_init : FunD K "__init__" "Hold.__init__" (defArgs s_Hold_init) (defBody s_Hold_init) (defScope s_Hold_init) [.ref a.t_Hold_init] [] a.f_Hold_init a.fd_Hold_init
  b_Hold_init : Binds K a.fd_Hold_init ["self", "rows"] []
  bd_Hold_init : ∃ ds, Vals [.ref a.t_Hold_init] ds ∧ Binds K a.fd_Hold_init ["self", "rows"] ds
  td_Hold_init : ∀ H, SqT K H a.t_Hold_init []
  at_Hold_init : PySem.W.findIn K (.ref a.C_Hold) "__init__" = some (some (.ref a.f_Hold_init))
  fn_Hold_init : PySem.W.isFn K (.ref a.f_Hold_init) = true
  F_law_pool : FunD K "_law_pool" "_law_pool" (defArgs s_law_pool) (defBody s_law_pool) (defScope s_law_pool) [] [] a.f_law_pool a.fd_law_pool
  b_law_pool : Binds K a.fd_law_pool ["_law_script"] []
  mg_law_pool : mg "_law_pool" = some (.ref a.f_law_pool)
  F_law_take : FunD K "_law_take" "_law_take" (defArgs s_law_take) (defBody s_law_take) (defScope s_law_take) [] [] a.f_law_take a.fd_law_take
  b_law_take : Binds K a.fd_law_take ["_law_pool_here", "_law_size"] []
  mg_law_take : mg "_law_take" = some (.ref a.f_law_take)
  F_law_base : FunD K "_law_base" "_law_base" (defArgs s_law_base) (defBody s_law_base) (defScope s_law_base) [] [] a.f_law_base a.fd_law_base
  b_law_base : Binds K a.fd_law_base ["_law_pool_here"] []
  mg_law_base : mg "_law_base" = some (.ref a.f_law_base)
  F_law_name : FunD K "_law_name" "_law_name" (defArgs s_law_name) (defBody s_law_name) (defScope s_law_name) [] [] a.f_law_name a.fd_law_name
  b_law_name : Binds K a.fd_law_name ["_law_pool_here", "_law_base_here", "_law_k"] []
  mg_law_name : mg "_law_name" = some (.ref a.f_law_name)
  F_law_is_only : FunD K "_law_is_only" "_law_is_only" (defArgs s_law_is_only) (defBody s_law_is_only) (defScope s_law_is_only) [] [] a.f_law_is_only a.fd_law_is_only
  b_law_is_only : Binds K a.fd_law_is_only ["_law_error", "_law_k"] []
  mg_law_is_only : mg "_law_is_only" = some (.ref a.f_law_is_only)
  F_law : FunD K "law" "law" (defArgs s_law) (defBody s_law) (defScope s_law) [] [] a.f_law a.fd_law
  b_law : Binds K a.fd_law ["_law_script"] []
  mg_law : mg "law" = some (.ref a.f_law)
  z_len : mg "len" = none
  z_all : mg "all" = none
  z_list : mg "list" = none
  z_int : mg "int" = none
  z_range : mg "range" = none
  z_isinstance : mg "isinstance" = none
  z_iter : mg "iter" = none
  z_bool : mg "bool" = none
  z_super : mg "super" = none
  z_ValueError : mg "ValueError" = none
abbrev N_Hold_init : List Str := ["self", "rows", "kept", "kind", "standing"]
theorem sc_Hold_init : FnScope ["self", "rows", "kept", "kind", "standing"] ["self", "rows"] (defScope s_Hold_init) := ⟨rfl, rfl, rfl, by decide +kernel, rfl, by decide +kernel, by decide +kernel⟩
abbrev N_law_pool : List Str := ["_law_script", "_law_cell"]
theorem sc_law_pool : FnScope ["_law_script", "_law_cell"] ["_law_script"] (defScope s_law_pool) := ⟨rfl, rfl, rfl, by decide +kernel, rfl, by decide +kernel, by decide +kernel⟩
abbrev N_law_take : List Str := ["_law_pool_here", "_law_size", "_law_value", "_law_cells"]
theorem sc_law_take : FnScope ["_law_pool_here", "_law_size", "_law_value", "_law_cells"] ["_law_pool_here", "_law_size"] (defScope s_law_take) := ⟨rfl, rfl, rfl, by decide +kernel, rfl, by decide +kernel, by decide +kernel⟩
abbrev N_law_base : List Str := ["_law_pool_here", "_law_signs", "_law_k"]
theorem sc_law_base : FnScope ["_law_pool_here", "_law_signs", "_law_k"] ["_law_pool_here"] (defScope s_law_base) := ⟨rfl, rfl, rfl, by decide +kernel, rfl, by decide +kernel, by decide +kernel⟩
abbrev N_law_name : List Str := ["_law_pool_here", "_law_base_here", "_law_k", "_law_text", "_law_at"]
theorem sc_law_name : FnScope ["_law_pool_here", "_law_base_here", "_law_k", "_law_text", "_law_at"] ["_law_pool_here", "_law_base_here", "_law_k"] (defScope s_law_name) := ⟨rfl, rfl, rfl, by decide +kernel, rfl, by decide +kernel, by decide +kernel⟩
abbrev N_law_is_only : List Str := ["_law_error", "_law_k", "_law_flags", "_law_j"]
theorem sc_law_is_only : FnScope ["_law_error", "_law_k", "_law_flags", "_law_j"] ["_law_error", "_law_k"] (defScope s_law_is_only) := ⟨rfl, rfl, rfl, by decide +kernel, rfl, by decide +kernel, by decide +kernel⟩
abbrev N_law : List Str := ["_law_script", "_law_pool_here", "_law_base_here", "_law_names", "_law_k", "_law_count", "_law_error", "_law_closed"]
theorem sc_law : FnScope ["_law_script", "_law_pool_here", "_law_base_here", "_law_names", "_law_k", "_law_count", "_law_error", "_law_closed"] ["_law_script"] (defScope s_law) := ⟨rfl, rfl, rfl, by decide +kernel, rfl, by decide +kernel, by decide +kernel⟩
abbrev N_Repeated_init : List Str := ["self", "name"]
theorem sc_Repeated_init : FnScopeS ["self", "name"] ["self", "name"] (defScope s_Repeated_init) := ⟨rfl, rfl, rfl, by decide +kernel, rfl, by decide +kernel, by decide +kernel, free_only (by decide +kernel), rfl, rfl⟩
abbrev N_Unknown_init : List Str := ["self", "name"]
theorem sc_Unknown_init : FnScopeS ["self", "name"] ["self", "name"] (defScope s_Unknown_init) := ⟨rfl, rfl, rfl, by decide +kernel, rfl, by decide +kernel, by decide +kernel, free_only (by decide +kernel), rfl, rfl⟩
abbrev N_NoStep_init : List Str := ["self", "before", "after"]
theorem sc_NoStep_init : FnScopeS ["self", "before", "after"] ["self", "before", "after"] (defScope s_NoStep_init) := ⟨rfl, rfl, rfl, by decide +kernel, rfl, by decide +kernel, by decide +kernel, free_only (by decide +kernel), rfl, rfl⟩
abbrev N_BadCount_init : List Str := ["self", "count"]
theorem sc_BadCount_init : FnScopeS ["self", "count"] ["self", "count"] (defScope s_BadCount_init) := ⟨rfl, rfl, rfl, by decide +kernel, rfl, by decide +kernel, by decide +kernel, free_only (by decide +kernel), rfl, rfl⟩
abbrev N_Lacking_init : List Str := ["self", "kind", "standing"]
theorem sc_Lacking_init : FnScopeS ["self", "kind", "standing"] ["self", "kind", "standing"] (defScope s_Lacking_init) := ⟨rfl, rfl, rfl, by decide +kernel, rfl, by decide +kernel, by decide +kernel, free_only (by decide +kernel), rfl, rfl⟩
abbrev N_Shut_init : List Str := ["self", "door"]
theorem sc_Shut_init : FnScopeS ["self", "door"] ["self", "door"] (defScope s_Shut_init) := ⟨rfl, rfl, rfl, by decide +kernel, rfl, by decide +kernel, by decide +kernel, free_only (by decide +kernel), rfl, rfl⟩
abbrev N_Unmet_init : List Str := ["self", "kind", "standing", "door"]
theorem sc_Unmet_init : FnScopeS ["self", "kind", "standing", "door"] ["self", "kind", "standing", "door"] (defScope s_Unmet_init) := ⟨rfl, rfl, rfl, by decide +kernel, rfl, by decide +kernel, by decide +kernel, free_only (by decide +kernel), rfl, rfl⟩
abbrev N_Never_init : List Str := ["self", "closed"]
theorem sc_Never_init : FnScopeS ["self", "closed"] ["self", "closed"] (defScope s_Never_init) := ⟨rfl, rfl, rfl, by decide +kernel, rfl, by decide +kernel, by decide +kernel, free_only (by decide +kernel), rfl, rfl⟩
section
variable {P : Program} {w : World} {K : PySem.W.Frag} {mg : Str → Option Value} {base : Heap} {a : Ad}
abbrev sgK (K : PySem.W.Frag) (a : Ad) : Sg0 := ⟨K, fun n => match n with | 0 => a.C_Hold | 2 => a.C_BadCount | 3 => a.C_Lacking | 9 => a.C_Repeated | 10 => a.C_Unknown | 11 => a.C_NoStep | 12 => a.C_Shut | 13 => a.C_Unmet | 14 => a.C_Never | _ => 0, fun n => match n with | 0 => ["rows"] | 2 => ["count"] | 3 => ["standing", "kind"] | 9 => ["name"] | 10 => ["name"] | 11 => ["after", "before"] | 12 => ["door"] | 13 => ["door", "standing", "kind"] | 14 => ["closed"] | _ => []⟩
structure HoldV where
  rows : (List (Nm × Nm))
instance : Rpd HoldV := ⟨fun x => .obj 0 [rp x.rows]⟩
theorem nd_Repeated : (["name"] : List Str).Nodup := by decide +kernel
theorem ok_Repeated_init (T : Tx P K mg a) : FnOk P w K mg base CX0 1 a.f_Repeated_init a.fd_Repeated_init ["self", "name"] (spEx (sgK K a) 9 txts) := by
  refine exc_fn T.F_Repeated_init sc_Repeated_init T.ec_Repeated rfl rfl rfl T.z_super (fun vs H Q E h => ?_) (fun A outer s H vs Q E h => ?_)
  · obtain ⟨x, ws, rfl, hl, _⟩ := h
    exact congrArg (· + 1) hl
  · obtain ⟨x, ws, rfl, hl, hc, ea, q⟩ := h
    match ws, hl with
    | [v1], _ =>
    obtain ⟨z1, rfl, hz1⟩ := hc v1 (by simp)
    refine ⟨x, _, rfl, ea, ex_fj (fj_v 1 rfl hz1 (fj_c fj_nil)), ?_⟩
    refine bx_f1 T.ec_Repeated.T T.na_Repeated_name rfl (.inl rfl) rfl (ex_of (pe_var (i := 1) rfl (.inl rfl)) ⟨_, rfl, ea, fun d hn hne => ?_⟩)
    exact bx_of pss_nil (q d _ hn hne (spEx_end1 hne).1 (spEx_end1 hne).2.1 (spEx_end1 hne).2.2)
theorem ex_Repeated (T : Tx P K mg a) : ExcP P w K mg base (sgK K a) 9 a.f_Repeated_init a.fd_Repeated_init ["self", "name"] txts := ⟨T.ec_Repeated.T, T.at_Repeated_init, T.ti_Repeated_init, T.b_Repeated_init, ok_Repeated_init T⟩
theorem nd_Unknown : (["name"] : List Str).Nodup := by decide +kernel
theorem ok_Unknown_init (T : Tx P K mg a) : FnOk P w K mg base CX0 1 a.f_Unknown_init a.fd_Unknown_init ["self", "name"] (spEx (sgK K a) 10 txts) := by
  refine exc_fn T.F_Unknown_init sc_Unknown_init T.ec_Unknown rfl rfl rfl T.z_super (fun vs H Q E h => ?_) (fun A outer s H vs Q E h => ?_)
  · obtain ⟨x, ws, rfl, hl, _⟩ := h
    exact congrArg (· + 1) hl
  · obtain ⟨x, ws, rfl, hl, hc, ea, q⟩ := h
    match ws, hl with
    | [v1], _ =>
    obtain ⟨z1, rfl, hz1⟩ := hc v1 (by simp)
    refine ⟨x, _, rfl, ea, ex_fj (fj_v 1 rfl hz1 (fj_c fj_nil)), ?_⟩
    refine bx_f1 T.ec_Unknown.T T.na_Unknown_name rfl (.inl rfl) rfl (ex_of (pe_var (i := 1) rfl (.inl rfl)) ⟨_, rfl, ea, fun d hn hne => ?_⟩)
    exact bx_of pss_nil (q d _ hn hne (spEx_end1 hne).1 (spEx_end1 hne).2.1 (spEx_end1 hne).2.2)
theorem ex_Unknown (T : Tx P K mg a) : ExcP P w K mg base (sgK K a) 10 a.f_Unknown_init a.fd_Unknown_init ["self", "name"] txts := ⟨T.ec_Unknown.T, T.at_Unknown_init, T.ti_Unknown_init, T.b_Unknown_init, ok_Unknown_init T⟩
theorem nd_NoStep : (["after", "before"] : List Str).Nodup := by decide +kernel
theorem ok_NoStep_init (T : Tx P K mg a) : FnOk P w K mg base CX0 1 a.f_NoStep_init a.fd_NoStep_init ["self", "before", "after"] (spEx (sgK K a) 11 txts) := by
  refine exc_fn T.F_NoStep_init sc_NoStep_init T.ec_NoStep rfl rfl rfl T.z_super (fun vs H Q E h => ?_) (fun A outer s H vs Q E h => ?_)
  · obtain ⟨x, ws, rfl, hl, _⟩ := h
    exact congrArg (· + 1) hl
  · obtain ⟨x, ws, rfl, hl, hc, ea, q⟩ := h
    match ws, hl with
    | [v1, v2], _ =>
    obtain ⟨z1, rfl, hz1⟩ := hc v1 (by simp)
    obtain ⟨z2, rfl, hz2⟩ := hc v2 (by simp)
    refine ⟨x, _, rfl, ea, ex_fj (fj_c (fj_v 1 rfl hz1 (fj_c (fj_v 2 rfl hz2 fj_nil)))), ?_⟩
    refine bx_f1 T.ec_NoStep.T T.na_NoStep_before rfl (.inl rfl) rfl (ex_of (pe_var (i := 1) rfl (.inl rfl)) ⟨_, rfl, ea, fun d hn hne => ?_⟩)
    refine bx_f2 T.ec_NoStep.T T.na_NoStep_after rfl (.inl rfl) rfl (Nat.le_of_ble_eq_true rfl) (ex_of (pe_var (i := 2) rfl (.inl rfl)) ⟨_, rfl, (mid2 hne).1, (mid2 hne).2, ?_⟩)
    exact bx_of pss_nil (q d _ hn hne (spEx_end2 hne).1 (spEx_end2 hne).2.1 (spEx_end2 hne).2.2)
theorem ex_NoStep (T : Tx P K mg a) : ExcP P w K mg base (sgK K a) 11 a.f_NoStep_init a.fd_NoStep_init ["self", "before", "after"] txts := ⟨T.ec_NoStep.T, T.at_NoStep_init, T.ti_NoStep_init, T.b_NoStep_init, ok_NoStep_init T⟩
theorem nd_BadCount : (["count"] : List Str).Nodup := by decide +kernel
theorem ok_BadCount_init (T : Tx P K mg a) : FnOk P w K mg base CX0 1 a.f_BadCount_init a.fd_BadCount_init ["self", "count"] (spEx (sgK K a) 2 anyV) := by
  refine exc_fn T.F_BadCount_init sc_BadCount_init T.ec_BadCount rfl rfl rfl T.z_super (fun vs H Q E h => ?_) (fun A outer s H vs Q E h => ?_)
  · obtain ⟨x, ws, rfl, hl, _⟩ := h
    exact congrArg (· + 1) hl
  · obtain ⟨x, ws, rfl, hl, hc, ea, q⟩ := h
    match ws, hl with
    | [v1], _ =>
    refine ⟨x, _, rfl, ea, ex_of pe_str rfl, ?_⟩
    refine bx_f1 T.ec_BadCount.T T.na_BadCount_count rfl (.inl rfl) rfl (ex_of (pe_var (i := 1) rfl (.inl rfl)) ⟨_, rfl, ea, fun d hn hne => ?_⟩)
    exact bx_of pss_nil (q d _ hn hne (spEx_end1 hne).1 (spEx_end1 hne).2.1 (spEx_end1 hne).2.2)
theorem ex_BadCount (T : Tx P K mg a) : ExcP P w K mg base (sgK K a) 2 a.f_BadCount_init a.fd_BadCount_init ["self", "count"] anyV := ⟨T.ec_BadCount.T, T.at_BadCount_init, T.ti_BadCount_init, T.b_BadCount_init, ok_BadCount_init T⟩
theorem nd_Lacking : (["standing", "kind"] : List Str).Nodup := by decide +kernel
theorem ok_Lacking_init (T : Tx P K mg a) : FnOk P w K mg base CX0 1 a.f_Lacking_init a.fd_Lacking_init ["self", "kind", "standing"] (spEx (sgK K a) 3 txts) := by
  refine exc_fn T.F_Lacking_init sc_Lacking_init T.ec_Lacking rfl rfl rfl T.z_super (fun vs H Q E h => ?_) (fun A outer s H vs Q E h => ?_)
  · obtain ⟨x, ws, rfl, hl, _⟩ := h
    exact congrArg (· + 1) hl
  · obtain ⟨x, ws, rfl, hl, hc, ea, q⟩ := h
    match ws, hl with
    | [v1, v2], _ =>
    obtain ⟨z1, rfl, hz1⟩ := hc v1 (by simp)
    obtain ⟨z2, rfl, hz2⟩ := hc v2 (by simp)
    refine ⟨x, _, rfl, ea, ex_fj (fj_c (fj_v 1 rfl hz1 (fj_c (fj_v 2 rfl hz2 fj_nil)))), ?_⟩
    refine bx_f1 T.ec_Lacking.T T.na_Lacking_kind rfl (.inl rfl) rfl (ex_of (pe_var (i := 1) rfl (.inl rfl)) ⟨_, rfl, ea, fun d hn hne => ?_⟩)
    refine bx_f2 T.ec_Lacking.T T.na_Lacking_standing rfl (.inl rfl) rfl (Nat.le_of_ble_eq_true rfl) (ex_of (pe_var (i := 2) rfl (.inl rfl)) ⟨_, rfl, (mid2 hne).1, (mid2 hne).2, ?_⟩)
    exact bx_of pss_nil (q d _ hn hne (spEx_end2 hne).1 (spEx_end2 hne).2.1 (spEx_end2 hne).2.2)
theorem ex_Lacking (T : Tx P K mg a) : ExcP P w K mg base (sgK K a) 3 a.f_Lacking_init a.fd_Lacking_init ["self", "kind", "standing"] txts := ⟨T.ec_Lacking.T, T.at_Lacking_init, T.ti_Lacking_init, T.b_Lacking_init, ok_Lacking_init T⟩
theorem nd_Shut : (["door"] : List Str).Nodup := by decide +kernel
theorem ok_Shut_init (T : Tx P K mg a) : FnOk P w K mg base CX0 1 a.f_Shut_init a.fd_Shut_init ["self", "door"] (spEx (sgK K a) 12 txts) := by
  refine exc_fn T.F_Shut_init sc_Shut_init T.ec_Shut rfl rfl rfl T.z_super (fun vs H Q E h => ?_) (fun A outer s H vs Q E h => ?_)
  · obtain ⟨x, ws, rfl, hl, _⟩ := h
    exact congrArg (· + 1) hl
  · obtain ⟨x, ws, rfl, hl, hc, ea, q⟩ := h
    match ws, hl with
    | [v1], _ =>
    obtain ⟨z1, rfl, hz1⟩ := hc v1 (by simp)
    refine ⟨x, _, rfl, ea, ex_fj (fj_c (fj_v 1 rfl hz1 fj_nil)), ?_⟩
    refine bx_f1 T.ec_Shut.T T.na_Shut_door rfl (.inl rfl) rfl (ex_of (pe_var (i := 1) rfl (.inl rfl)) ⟨_, rfl, ea, fun d hn hne => ?_⟩)
    exact bx_of pss_nil (q d _ hn hne (spEx_end1 hne).1 (spEx_end1 hne).2.1 (spEx_end1 hne).2.2)
theorem ex_Shut (T : Tx P K mg a) : ExcP P w K mg base (sgK K a) 12 a.f_Shut_init a.fd_Shut_init ["self", "door"] txts := ⟨T.ec_Shut.T, T.at_Shut_init, T.ti_Shut_init, T.b_Shut_init, ok_Shut_init T⟩
theorem nd_Unmet : (["door", "standing", "kind"] : List Str).Nodup := by decide +kernel
theorem ok_Unmet_init (T : Tx P K mg a) : FnOk P w K mg base CX0 1 a.f_Unmet_init a.fd_Unmet_init ["self", "kind", "standing", "door"] (spEx (sgK K a) 13 txts) := by
  refine exc_fn T.F_Unmet_init sc_Unmet_init T.ec_Unmet rfl rfl rfl T.z_super (fun vs H Q E h => ?_) (fun A outer s H vs Q E h => ?_)
  · obtain ⟨x, ws, rfl, hl, _⟩ := h
    exact congrArg (· + 1) hl
  · obtain ⟨x, ws, rfl, hl, hc, ea, q⟩ := h
    match ws, hl with
    | [v1, v2, v3], _ =>
    obtain ⟨z1, rfl, hz1⟩ := hc v1 (by simp)
    obtain ⟨z2, rfl, hz2⟩ := hc v2 (by simp)
    obtain ⟨z3, rfl, hz3⟩ := hc v3 (by simp)
    refine ⟨x, _, rfl, ea, ex_fj (fj_v 1 rfl hz1 (fj_c (fj_v 2 rfl hz2 (fj_c (fj_v 3 rfl hz3 fj_nil))))), ?_⟩
    refine bx_f1 T.ec_Unmet.T T.na_Unmet_kind rfl (.inl rfl) rfl (ex_of (pe_var (i := 1) rfl (.inl rfl)) ⟨_, rfl, ea, fun d hn hne => ?_⟩)
    refine bx_f2 T.ec_Unmet.T T.na_Unmet_standing rfl (.inl rfl) rfl (Nat.le_of_ble_eq_true rfl) (ex_of (pe_var (i := 2) rfl (.inl rfl)) ⟨_, rfl, (mid2 hne).1, (mid2 hne).2, ?_⟩)
    refine bx_f2 T.ec_Unmet.T T.na_Unmet_door rfl (.inl rfl) rfl (Nat.le_of_ble_eq_true rfl) (ex_of (pe_var (i := 3) rfl (.inl rfl)) ⟨_, rfl, (mid3 hne).1, (mid3 hne).2, ?_⟩)
    exact bx_of pss_nil (q d _ hn hne (spEx_end3 hne).1 (spEx_end3 hne).2.1 (spEx_end3 hne).2.2)
theorem ex_Unmet (T : Tx P K mg a) : ExcP P w K mg base (sgK K a) 13 a.f_Unmet_init a.fd_Unmet_init ["self", "kind", "standing", "door"] txts := ⟨T.ec_Unmet.T, T.at_Unmet_init, T.ti_Unmet_init, T.b_Unmet_init, ok_Unmet_init T⟩
abbrev xNums : List Nat := [9, 10, 11, 2, 3, 12, 13, 14]
structure XV where
  c : Nat
  l : List D
  ok : c ∈ xNums
instance : Rpd XV := ⟨fun x => .exc x.c x.l⟩
theorem nd_Never : (["closed"] : List Str).Nodup := by decide +kernel
section
variable {c : Nat}
theorem x8 {R : Nat → Prop} (h : c ∈ xNums) (h1 : R 9) (h2 : R 10) (h3 : R 11) (h4 : R 2) (h5 : R 3) (h6 : R 12) (h7 : R 13) (h8 : R 14) : R c := by
  simp only [xNums, List.mem_cons, List.not_mem_nil, or_false] at h
  rcases h with rfl | rfl | rfl | rfl | rfl | rfl | rfl | rfl <;> assumption
theorem xC (T : Tx P K mg a) (h : c ∈ xNums) : ExcC K ((sgK K a).cls c) := x8 (R := fun c => ExcC K ((sgK K a).cls c)) h T.xc_Repeated T.xc_Unknown T.xc_NoStep T.xc_BadCount T.xc_Lacking T.xc_Shut T.xc_Unmet T.xc_Never
theorem xVE (T : Tx P K mg a) (h : c ∈ xNums) : PySem.W.kitOne K (.ref ((sgK K a).cls c)) (.type "ValueError") = some true := x8 (R := fun c => PySem.W.kitOne K (.ref ((sgK K a).cls c)) (.type "ValueError") = some true) h T.kv_Repeated T.kv_Unknown T.kv_NoStep T.kv_BadCount T.kv_Lacking T.kv_Shut T.kv_Unmet T.kv_Never
theorem xYE (T : Tx P K mg a) (h : c ∈ xNums) : PySem.W.kitOne K (.ref ((sgK K a).cls c)) (.ref a.C_YardError) = some true := x8 (R := fun c => PySem.W.kitOne K (.ref ((sgK K a).cls c)) (.ref a.C_YardError) = some true) h T.kx_Repeated_YardError T.kx_Unknown_YardError T.kx_NoStep_YardError T.kx_BadCount_YardError T.kx_Lacking_YardError T.kx_Shut_YardError T.kx_Unmet_YardError T.kx_Never_YardError
theorem xK_Repeated (T : Tx P K mg a) (h : c ∈ xNums) : PySem.W.kitOne K (.ref ((sgK K a).cls c)) (.ref a.C_Repeated) = some (decide (c = 9)) := x8 (R := fun c => PySem.W.kitOne K (.ref ((sgK K a).cls c)) (.ref a.C_Repeated) = some (decide (c = 9))) h T.kx_Repeated_Repeated T.kx_Unknown_Repeated T.kx_NoStep_Repeated T.kx_BadCount_Repeated T.kx_Lacking_Repeated T.kx_Shut_Repeated T.kx_Unmet_Repeated T.kx_Never_Repeated
theorem xK_Unknown (T : Tx P K mg a) (h : c ∈ xNums) : PySem.W.kitOne K (.ref ((sgK K a).cls c)) (.ref a.C_Unknown) = some (decide (c = 10)) := x8 (R := fun c => PySem.W.kitOne K (.ref ((sgK K a).cls c)) (.ref a.C_Unknown) = some (decide (c = 10))) h T.kx_Repeated_Unknown T.kx_Unknown_Unknown T.kx_NoStep_Unknown T.kx_BadCount_Unknown T.kx_Lacking_Unknown T.kx_Shut_Unknown T.kx_Unmet_Unknown T.kx_Never_Unknown
theorem xK_NoStep (T : Tx P K mg a) (h : c ∈ xNums) : PySem.W.kitOne K (.ref ((sgK K a).cls c)) (.ref a.C_NoStep) = some (decide (c = 11)) := x8 (R := fun c => PySem.W.kitOne K (.ref ((sgK K a).cls c)) (.ref a.C_NoStep) = some (decide (c = 11))) h T.kx_Repeated_NoStep T.kx_Unknown_NoStep T.kx_NoStep_NoStep T.kx_BadCount_NoStep T.kx_Lacking_NoStep T.kx_Shut_NoStep T.kx_Unmet_NoStep T.kx_Never_NoStep
theorem xK_BadCount (T : Tx P K mg a) (h : c ∈ xNums) : PySem.W.kitOne K (.ref ((sgK K a).cls c)) (.ref a.C_BadCount) = some (decide (c = 2)) := x8 (R := fun c => PySem.W.kitOne K (.ref ((sgK K a).cls c)) (.ref a.C_BadCount) = some (decide (c = 2))) h T.kx_Repeated_BadCount T.kx_Unknown_BadCount T.kx_NoStep_BadCount T.kx_BadCount_BadCount T.kx_Lacking_BadCount T.kx_Shut_BadCount T.kx_Unmet_BadCount T.kx_Never_BadCount
theorem xK_Lacking (T : Tx P K mg a) (h : c ∈ xNums) : PySem.W.kitOne K (.ref ((sgK K a).cls c)) (.ref a.C_Lacking) = some (decide (c = 3)) := x8 (R := fun c => PySem.W.kitOne K (.ref ((sgK K a).cls c)) (.ref a.C_Lacking) = some (decide (c = 3))) h T.kx_Repeated_Lacking T.kx_Unknown_Lacking T.kx_NoStep_Lacking T.kx_BadCount_Lacking T.kx_Lacking_Lacking T.kx_Shut_Lacking T.kx_Unmet_Lacking T.kx_Never_Lacking
theorem xK_Shut (T : Tx P K mg a) (h : c ∈ xNums) : PySem.W.kitOne K (.ref ((sgK K a).cls c)) (.ref a.C_Shut) = some (decide (c = 12)) := x8 (R := fun c => PySem.W.kitOne K (.ref ((sgK K a).cls c)) (.ref a.C_Shut) = some (decide (c = 12))) h T.kx_Repeated_Shut T.kx_Unknown_Shut T.kx_NoStep_Shut T.kx_BadCount_Shut T.kx_Lacking_Shut T.kx_Shut_Shut T.kx_Unmet_Shut T.kx_Never_Shut
theorem xK_Unmet (T : Tx P K mg a) (h : c ∈ xNums) : PySem.W.kitOne K (.ref ((sgK K a).cls c)) (.ref a.C_Unmet) = some (decide (c = 13)) := x8 (R := fun c => PySem.W.kitOne K (.ref ((sgK K a).cls c)) (.ref a.C_Unmet) = some (decide (c = 13))) h T.kx_Repeated_Unmet T.kx_Unknown_Unmet T.kx_NoStep_Unmet T.kx_BadCount_Unmet T.kx_Lacking_Unmet T.kx_Shut_Unmet T.kx_Unmet_Unmet T.kx_Never_Unmet
theorem xK_Never (T : Tx P K mg a) (h : c ∈ xNums) : PySem.W.kitOne K (.ref ((sgK K a).cls c)) (.ref a.C_Never) = some (decide (c = 14)) := x8 (R := fun c => PySem.W.kitOne K (.ref ((sgK K a).cls c)) (.ref a.C_Never) = some (decide (c = 14))) h T.kx_Repeated_Never T.kx_Unknown_Never T.kx_NoStep_Never T.kx_BadCount_Never T.kx_Lacking_Never T.kx_Shut_Never T.kx_Unmet_Never T.kx_Never_Never
end
theorem ok_Never_init (T : Tx P K mg a) : FnOk P w K mg base CX0 1 a.f_Never_init a.fd_Never_init ["self", "closed"] (spNv (sgK K a) 14) := by
  refine exc_fn T.F_Never_init sc_Never_init T.ec_Never rfl rfl rfl T.z_super (fun vs H Q E h => ?_) (fun A outer s H vs Q E h => ?_)
  · obtain ⟨x, b, xs, rfl, _⟩ := h
    rfl
  obtain ⟨x, b, xs, rfl, hs, ea, q⟩ := h
  refine ⟨x, _, rfl, ea, ex_of pe_str rfl, ?_⟩
  refine bx_f1 T.ec_Never.T T.na_Never_closed rfl (.inl rfl) rfl ?_
  refine ex_of (pe_callTy call_list_of (by rfl) T.z_list b_list (pa_cons (pe_var (i := 1) rfl (.inl rfl)) pa_nil)) ?_
  refine ⟨_, rfl, b, xs, rfl, hs, fun z hz => ?_⟩
  have hzx : z ≠ x := fun e => by rw [e, ea] at hz; cases hz
  refine ⟨by rw [upd_ne (Ne.symm hzx)]; exact ea, fun d hd hne => ?_⟩
  have hdz : d ≠ z := fun e => by rw [e, upd_same] at hd; cases hd
  rw [upd_ne hdz] at hd
  refine bx_of pss_nil (q d z _ hd hne hz hzx (Ne.symm hdz) upd_same (by rw [upd_ne hne, upd_same]; rfl) (by rw [upd_ne hzx, upd_ne (Ne.symm hdz), upd_same]) fun b h1 h2 h3 => by rw [upd_ne h1, upd_ne h2, upd_ne h3])
theorem nv_Never (T : Tx P K mg a) : NvP P w K mg base (sgK K a) 14 a.f_Never_init a.fd_Never_init ["self", "closed"] := ⟨T.ec_Never.T, T.at_Never_init, T.ti_Never_init, T.b_Never_init, ok_Never_init T⟩
theorem two_of {as : List Addr} {d1 d2 : D} (h : as.length = ([d1, d2] : List D).length) : ∃ b1 b2, as = [b1, b2] := by
  match as, h with
  | [b1, b2], _ => exact ⟨b1, b2, rfl⟩
theorem b_ValueError : bootBuiltins "ValueError" = some (.type "ValueError") := by decide +kernel
theorem ok_take (T : Tx P K mg a) : FnOk P w K mg base CX0 1 a.f_law_take a.fd_law_take ["_law_pool_here", "_law_size"] (spG (sgK K a) sg_take) := by
  refine fund_ok T.F_law_take sc_law_take (fun ds μ Q Ex h => ?_) (fun cdv A outer s H E ds μ Q Ex hr h => ?_)
  · obtain ⟨p, l, n, rfl, _⟩ := h
    rfl
  obtain ⟨p, l, n, rfl, rfl, hl, ⟨hn, hn2⟩, q⟩ := h
  have nd := sc_law_take.nd
  have hu := hu_room hr
  rcases hl with ⟨m, hm, rfl⟩ | ⟨x, k, cs, rfl, hx, hk, hc, hcl, hcs⟩
  · refine ifb <| et_cmp <| ev_callB rfl T.z_len b_len <| ea_cons <| nm 0 <| ea_nil <| cg_len rfl (.l (.ref (.head _))) <| ev_int <| og_eqI ⟨_, rfl, ⟨fun _ => ?_, fun h => by simp at h⟩⟩
    refine asg 2 nd <| ev_bin <| ev_callTy rfl T.z_int b_int <| ea_cons <| ev_ix (fun _ _ => rfl) <| nm 0 <| ev_int <| ig_l (.ref (.head _)) (by rfl) <| ea_nil <| cg_int <| nm 1 <| og_modI hn ?_
    refine setb <| ev_bin <| ev_ix (fun _ _ => rfl) <| nm 0 <| ev_int <| ig_l (.ref (.head _)) (by rfl) <| nm 1 <| og_fdivW (wide_div (b := 201) hn ?_ (by decide) (by decide)) <| tg_sub <| nm 0 <| ev_int ⟨p, _, _, 0, _, rfl, rfl, (by exact ixN0 (Nat.zero_lt_succ _)), .here, ?_⟩
    · have : (2 : Int) ^ 200 < 2 ^ 201 := by decide
      have e : ((2 ^ 201 : Nat) : Int) = 2 ^ 201 := by decide
      omega
    refine ret <| nm 2 <| q _ _ (Int.emod_nonneg _ (by omega)) (Int.emod_lt_of_pos _ hn) (.inl ⟨m / n, Int.ediv_nonneg hm (by omega), rfl⟩)
  · refine ifb <| et_cmp <| ev_callB rfl T.z_len b_len <| ea_cons <| nm 0 <| ea_nil <| cg_len rfl (.l (.ref (.head _))) <| ev_int <| og_eqI ⟨_, rfl, ⟨fun h => by simp at h, fun _ => nil ?_⟩⟩
    refine asg 3 nd <| ev_ix (fun _ _ => rfl) <| nm 0 <| ev_int <| ig_l (.ref (.head _)) (by rfl) ?_
    obtain ⟨c, hcm, hci⟩ := atI_mod hc hk
    have hc1 := hcs c hcm
    refine setb <| ev_bin <| ev_callTy rfl T.z_int b_int <| ea_cons <| ev_bin <| ev_bin <| ev_bin <| ev_ix (fun _ _ => rfl) <| nm 0 <| ev_int <| ig_l (.ref (.head _)) (by rfl) <| ev_int <| og_mulI (.inr ⟨by decide, by decide⟩) <| ev_ix (fun _ _ => rfl) <| nm 3 <| ev_bin <| ev_callTy rfl T.z_int b_int <| ea_cons <| ev_ix (fun _ _ => rfl) <| nm 0 <| ev_int <| ig_l (.ref (.head _)) (by rfl) <| ea_nil <| cg_int <| ev_callB rfl T.z_len b_len <| ea_cons <| nm 3 <| ea_nil <| cg_len rfl (.l (.val _)) <| og_modI ?_ <| ?_
    · rw [List.length_map]
      have hl : 0 < cs.length := List.length_pos_iff.mpr hc
      omega
    rw [List.length_map]
    refine ig_l (.val _) hci <| og_addI <| ev_int <| og_addI <| ea_nil <| cg_int <| ev_int <| og_modI (by decide) <| tg_sub <| nm 0 <| ev_int ⟨p, _, _, 0, _, rfl, rfl, (by exact ixN0 (Nat.zero_lt_succ _)), .here, ?_⟩
    have y1 : 0 ≤ (x * 75 + c + 74) % 65537 := Int.emod_nonneg _ (by decide)
    have y2 : (x * 75 + c + 74) % 65537 < 65537 := Int.emod_lt_of_pos _ (by decide)
    generalize (x * 75 + c + 74) % 65537 = y at y1 y2
    refine setb <| ev_bin <| ev_ix (fun _ _ => rfl) <| nm 0 <| ev_int <| ig_l (.ref (.head _)) (by rfl) <| ev_int <| og_addI <| tg_sub <| nm 0 <| ev_int ⟨p, _, _, 1, _, rfl, rfl, (by rfl), .here, ?_⟩
    have okl : PoolOk (((([.int x, .int k, .lst (cs.map D.int)] : List D).set 0 (.int y)).set 1 (.int (k + 1)))) := .inr ⟨y, k + 1, cs, rfl, ⟨y1, y2⟩, by omega, hc, hcl, hcs⟩
    refine ifb <| et_cmp <| nm 1 <| ev_int <| og_gtI ⟨_, rfl, ⟨fun _ => ?_, fun _ => nil ?_⟩⟩
    · refine ret <| ev_bin <| ev_callTy rfl T.z_int b_int <| ea_cons <| ev_bin <| ev_ix (fun _ _ => rfl) <| nm 0 <| ev_int <| ig_l (.ref (.head _)) (by rfl) <| ev_int <| og_powI ⟨by decide, by decide, by omega⟩ <| ea_nil <| cg_int <| nm 1 <| og_modI hn ?_
      exact q _ _ (Int.emod_nonneg _ (by omega)) (Int.emod_lt_of_pos _ hn) okl
    · refine ret <| ev_bin <| ev_callTy rfl T.z_int b_int <| ea_cons <| ev_ix (fun _ _ => rfl) <| nm 0 <| ev_int <| ig_l (.ref (.head _)) (by rfl) <| ea_nil <| cg_int <| nm 1 <| og_modI hn ?_
      exact q _ _ (Int.emod_nonneg _ (by omega)) (Int.emod_lt_of_pos _ hn) okl
theorem at0 {x : Int} {xs : List Int} : atI (x :: xs) 0 = some x := by
  unfold atI
  rw [ixN0 (n := (x :: xs).length) (Nat.zero_lt_succ _)]
  rfl
def sg_pool : SpG := fun ds μ Q _ => ∃ ns : List Int, ds = [.scr ns] ∧ ns.length ≤ 63 ∧ μ = [] ∧ ∀ p l, PoolOk l → Q (.ref p) [(p, .lst l)]
theorem pool_mono : MonoG sg_pool := fun _ _ _ _ _ _ ⟨ns, h1, h2, h3, q⟩ m _ => ⟨ns, h1, h2, h3, fun p l h => m _ _ (q p l h)⟩
theorem ok_pool (T : Tx P K mg a) : FnOk P w K mg base CX0 1 a.f_law_pool a.fd_law_pool ["_law_script"] (spG (sgK K a) sg_pool) := by
  refine fund_ok T.F_law_pool sc_law_pool (fun ds μ Q Ex h => ?_) (fun cdv A outer s H E ds μ Q Ex hr h => ?_)
  · obtain ⟨ns, rfl, _⟩ := h
    rfl
  obtain ⟨ns, rfl, hlen, rfl, q⟩ := h
  have nd := sc_law_pool.nd
  refine ifb <| et_cmp <| ev_callB rfl T.z_len b_len <| ea_cons <| nm 0 <| ea_nil <| cg_lenScr rfl <| ev_int <| og_eqI ⟨_, rfl, fun h => ?_, fun h => nil ?_⟩
  · exact ret <| ev_lstM <| ea_cons <| ev_int <| ea_few (fun p _ => q p _ (.inl ⟨0, by decide, rfl⟩))
  · cases ns with
    | nil => simp at h
    | cons n ns =>
    refine ifb <| et_cmp <| ev_ix (fun _ _ => rfl) <| nm 0 <| ev_int <| ig_scr (ns := n :: ns) rfl at0 <| ev_bin <| ev_int <| ev_int <| og_powI ⟨by decide, by decide, by decide⟩ <| og_geI ⟨_, rfl, fun h => ?_, fun _ => nil ?_⟩
    · refine ret <| ev_lstM <| ea_cons <| ev_bin <| ev_ix (fun _ _ => rfl) <| nm 0 <| ev_int <| ig_scr (ns := n :: ns) rfl at0 <| ev_bin <| ev_int <| ev_int <| og_powI ⟨by decide, by decide, by decide⟩ <| og_subI <| ea_few (fun p _ => q p _ (.inl ⟨_, ?_, rfl⟩))
      have := of_decide_eq_true h
      omega
    · refine ret <| ev_lstM <| ea_cons <| ev_int <| ea_cons <| ev_int <| ea_cons <| ev_lc (own := [("_law_cell", 1)]) rfl nd (blkOk_by (N := N_law_pool) (sc := defScope s_law_pool) (by decide +kernel)) rfl <| ig_val <| nm 0 <| iv_scr rfl ⟨fun i acc μ' => acc = (((n :: ns).take i).map (fun c => c % 65537)).map D.int ∧ μ' = [], ⟨rfl, rfl⟩, fun _ _ _ _ => trivial, ?_, ?_⟩
      · rintro i d acc _ hd ⟨rfl, rfl⟩ k
        obtain ⟨c, hc, rfl⟩ := map_at hd
        refine tn 1 nd fun k => ts_nil ⟨fun _ k => ?_, fun h => nomatch h⟩
        refine ev_bin <| ev_callTy rfl T.z_int b_int <| ea_cons <| nm 1 <| ea_nil <| cg_int <| ev_int <| og_modI (by decide) ⟨?_, ?_, rfl⟩
        · have h3 : ((n :: ns).take i).length ≤ (n :: ns).length := List.length_take_le' i _
          rw [List.length_map, List.length_map]
          omega
        · rw [take_snoc hc, List.map_append, List.map_append]
          rfl
      · rintro acc _ ⟨rfl, rfl⟩
        rw [List.length_map, List.take_length]
        refine ea_few (fun p _ => q p _ (.inr ⟨1, 0, (n :: ns).map (fun c => c % 65537), rfl, by decide, by decide, (by simp), (by rw [List.length_map]; exact hlen), fun c hc => ?_⟩))
        obtain ⟨x, _, rfl⟩ := List.mem_map.mp hc
        exact ⟨Int.emod_nonneg _ (by decide), Int.emod_lt_of_pos _ (by decide)⟩
section
variable {X : Cx} {e : Expr} {es : List Expr} {Γ : Gm} {μ : Mem} {Q : QD} {p pos : Pos}
theorem c_take (T : Tx P K mg a) (hX : X.prog = P ∧ X.w = w ∧ X.K = K ∧ X.mg = mg ∧ X.base = base) (hr : Room 1 X.A) (h : EvA X (sgK K a).nx (e :: es) Γ μ fun ds μ1 => AskG (sgK K a).nx sg_take ds μ1 Q) (hg : Gl X "_law_take" := by rfl)
    (he : starEach (e :: es) X.env = (false, eval e X.env) :: starEach es X.env := by rfl) (hpl : (backTo pos (starEach es X.env)).any (·.1) = false := by rfl) : EvG X (sgK K a).nx (.Call (.Name "_law_take" p) (e :: es) [] pos) Γ μ Q := by
  obtain ⟨rfl, rfl, rfl, rfl, rfl⟩ := hX
  exact ev_call take_mono (ok_take T) hr hg T.mg_law_take T.F_law_take.kp T.b_law_take .nil (fun _ => .nil) pass0 (by simpa only [List.append_nil] using h) (by decide) he hpl
end
def sg_base : SpG := fun ds μ Q _ => ∃ p l, ds = [.ref p] ∧ μ = [(p, .lst l)] ∧ PoolOk l ∧ ∀ z l', BaseOk z → PoolOk l' → Q (.str z) [(p, .lst l')]
theorem base_at {r : Int} (h1 : 0 ≤ r) (h2 : r < 24) : ∃ c, c ∈ baseC ∧ atI baseC r = some c := by
  obtain ⟨n, rfl⟩ := Int.eq_ofNat_of_zero_le h1
  have hn : n < baseC.length := by rw [base_len]; omega
  refine ⟨baseC[n], List.getElem_mem hn, ?_⟩
  have : ∀ n : Nat, n < 24 → atI baseC (n : Int) = baseC[n]? := by decide +kernel
  rw [this n (by omega)]
  exact List.getElem?_eq_getElem hn
theorem ok_base (T : Tx P K mg a) : FnOk P w K mg base CX0 2 a.f_law_base a.fd_law_base ["_law_pool_here"] (spG (sgK K a) sg_base) := by
  refine fund_ok T.F_law_base sc_law_base (fun ds μ Q Ex h => ?_) (fun cdv A outer s H E ds μ Q Ex hr h => ?_)
  · obtain ⟨p, l, rfl, _⟩ := h
    rfl
  obtain ⟨p, l, rfl, rfl, hl, q⟩ := h
  have nd := sc_law_base.nd
  refine asg 1 nd <| ev_str <| ret <| ev_bm PySem.F.plainAttrs_str PySem.F.slot_str_join PySem.F.type_str_join <| ev_str ⟨rfl, ea_cons <| ev_lc (own := [("_law_k", 2)]) rfl nd (blkOk_by (N := N_law_base) (sc := defScope s_law_base) (by decide +kernel)) rfl <| ig_range1 rfl T.z_range <| ea_cons <| c_take (P := P) (w := w) (base := base) T ⟨rfl, rfl, rfl, rfl, rfl⟩ hr <| ea_cons <| nm 0 <| ea_cons <| ev_int <| ea_nil <| ask_take hl (by decide) fun r l1 r1 r2 hl1 => ea_nil ⟨r, rfl, by omega, ?_⟩⟩
  refine ⟨fun i acc μ' => ∃ (xs : List Nat) (l' : List D), acc = (xs.map fun c => (⟨#[c]⟩ : Str)).map D.str ∧ xs.length = i ∧ (∀ c ∈ xs, c ∈ baseC) ∧ μ' = [(p, .lst l')] ∧ PoolOk l', ⟨[], l1, rfl, rfl, (fun c h => by cases h), rfl, hl1⟩, fun _ _ _ _ => trivial, ?_, ?_⟩
  · rintro i d acc _ hd ⟨xs, l', rfl, hxl, hxs, rfl, hl'⟩ k
    obtain ⟨hi, rfl⟩ := rng_get hd
    refine tn 2 nd fun k => ts_nil ⟨fun _ k => ?_, fun h => nomatch h⟩
    refine ev_ix (fun _ _ => rfl) <| nm 1 <| c_take (P := P) (w := w) (base := base) T ⟨rfl, rfl, rfl, rfl, rfl⟩ hr <| ea_cons <| nm 0 <| ea_cons <| ev_int <| ea_nil <| ask_take hl' (by decide) fun r2 l2 r1 r2 hl2 => ?_
    obtain ⟨c, hc, hat⟩ := base_at r1 r2
    refine ig_s (by decide +kernel) hat ⟨?_, xs ++ [c], l2, (by rw [List.map_append, List.map_append]; rfl), (by simp [hxl]), ?_, rfl, hl2⟩
    · rw [List.length_map, List.length_map, hxl]
      omega
    · intro d hd
      rcases List.mem_append.mp hd with h | h
      · exact hxs d h
      · cases List.mem_singleton.mp h
        exact hc
  · rintro acc _ ⟨xs, l', rfl, hxl, hxs, rfl, hl'⟩
    rw [rng_len] at hxl
    refine ea_nil (mt_join rfl ?_ (q _ _ ⟨?_, ?_⟩ hl'))
    · have e1 : ∀ xs : List Nat, ((xs.map fun c => (⟨#[c]⟩ : Str)).map (·.length)).sum = xs.length := fun xs => by
        induction xs with
        | nil => rfl
        | cons x xs ih => rw [List.map_cons, List.map_cons, List.sum_cons, ih, List.length_cons]; show 1 + xs.length = _; omega
      rw [e1, List.length_map]
      show _ + _ * 0 ≤ _
      omega
    · rw [join_cs]
      omega
    · rw [join_cs]
      exact hxs
def sg_name : SpG := fun ds μ Q _ => ∃ p l b k, ds = [.ref p, .str b, .int k] ∧ μ = [(p, .lst l)] ∧ PoolOk l ∧ BaseOk b ∧ (0 ≤ k ∧ k < 12) ∧ ∀ z l', NameOk k.toNat z → PoolOk l' → Q (.str z) [(p, .lst l')]
theorem mark_at {r : Int} (h1 : 0 ≤ r) (h2 : r < 12) : ∃ c, markC[r.toNat]? = some c ∧ atI markC r = some c := by
  obtain ⟨n, rfl⟩ := Int.eq_ofNat_of_zero_le h1
  have hn : n < markC.length := by rw [mark_len]; omega
  refine ⟨markC[n], by rw [Int.toNat_natCast]; exact List.getElem?_eq_getElem hn, ?_⟩
  have : ∀ n : Nat, n < 12 → atI markC (n : Int) = markC[n]? := by decide +kernel
  rw [this n (by omega)]
  exact List.getElem?_eq_getElem hn
theorem ok_name (T : Tx P K mg a) : FnOk P w K mg base CX0 2 a.f_law_name a.fd_law_name ["_law_pool_here", "_law_base_here", "_law_k"] (spG (sgK K a) sg_name) := by
  refine fund_ok T.F_law_name sc_law_name (fun ds μ Q Ex h => ?_) (fun cdv A outer s H E ds μ Q Ex hr h => ?_)
  · obtain ⟨p, l, b, k, rfl, _⟩ := h
    rfl
  obtain ⟨p, l, b, k, rfl, rfl, hl, hb, ⟨k1, k2⟩, q⟩ := h
  have nd := sc_law_name.nd
  have hbl : b.length ≤ 11 := by rw [cs_len]; exact hb.1
  refine asg 3 nd <| ev_sl <| nm 1 <| po_no <| po_so <| c_take (P := P) (w := w) (base := base) T ⟨rfl, rfl, rfl, rfl, rfl⟩ hr <| ea_cons <| nm 0 <| ea_cons <| ev_bin <| ev_callB rfl T.z_len b_len <| ea_cons <| nm 1 <| ea_nil <| cg_lenS (z := b) (by omega) <| ev_int <| og_addI <| ea_nil <| ask_take hl (by omega) fun r l1 r1 r2 hl1 => ?_
  obtain ⟨n, rfl⟩ := Int.eq_ofNat_of_zero_le r1
  refine ⟨_, rfl, slg_s (by omega) ?_⟩
  have ht : cs (cutS b none (some (n : Int))) = (cs b).take n := cutS_tl
  generalize cutS b none (some (n : Int)) = t at ht
  have htl : t.length ≤ 11 := by
    rw [cs_len, ht]
    exact Nat.le_trans (List.length_take_le' n _) hb.1
  refine asg 4 nd <| c_take (P := P) (w := w) (base := base) T ⟨rfl, rfl, rfl, rfl, rfl⟩ hr <| ea_cons <| nm 0 <| ea_cons <| ev_bin <| ev_callB rfl T.z_len b_len <| ea_cons <| nm 3 <| ea_nil <| cg_lenS (z := t) (by omega) <| ev_int <| og_addI <| ea_nil <| ask_take hl1 (by omega) fun m l2 m1 m2 hl2 => ?_
  obtain ⟨m, rfl⟩ := Int.eq_ofNat_of_zero_le m1
  obtain ⟨c, hc, hat⟩ := mark_at k1 k2
  have a1 : cs (cutS t none (some (m : Int))) = (cs t).take m := cutS_tl
  have a2 : cs (cutS t (some (m : Int)) none) = (cs t).drop m := cutS_hd
  have b1 : (cutS t none (some (m : Int))).length ≤ 11 := by
    rw [cs_len, a1]
    have := List.length_take_le' m (cs t)
    rw [cs_len] at htl
    omega
  have b2 : (cutS t (some (m : Int)) none).length ≤ 11 := by
    rw [cs_len, a2, List.length_drop]
    rw [cs_len] at htl
    omega
  have b3 : (cutS t none (some (m : Int)) ++ (⟨#[c]⟩ : Str)).length ≤ 12 := by
    rw [cs_len, cs_app, List.length_append, ← cs_len, cs_one]
    show _ + 1 ≤ _
    omega
  refine ret <| ev_bin <| ev_bin <| ev_sl <| nm 3 <| po_no <| po_so <| nm 4 ⟨_, rfl, slg_s (z := t) (by omega) <| ev_ix (fun _ _ => rfl) <| ev_str <| nm 2 <| ig_s (by decide +kernel) hat <| og_addS (x := cutS t none (some (m : Int))) (y := ⟨#[c]⟩) (by show _ + 1 ≤ _; omega) <| ev_sl <| nm 3 <| po_so <| nm 4 ⟨_, rfl, po_no <| slg_s (z := t) (by omega) <| og_addS (x := cutS t none (some (m : Int)) ++ ⟨#[c]⟩) (y := cutS t (some (m : Int)) none) (by omega) (q _ _ ⟨(cs t).take m, (cs t).drop m, c, ?_, hc, ?_, ?_⟩ hl2)⟩⟩
  · rw [cs_app, cs_app, a1, a2, cs_one, List.append_assoc]
    rfl
  · rw [List.take_append_drop, ht]
    exact fun c hc => hb.2 c (List.mem_of_mem_take hc)
  · rw [List.take_append_drop, ← cs_len]
    exact htl
abbrev BaseS := {z : Str // BaseOk z}
instance : Rpd BaseS := ⟨fun x => .str x.1⟩
theorem nm_of {k : Nat} {z : Str} (h : NameOk k z) : OkS z ∧ z.length ≤ 1000 := ⟨h.ok, Nat.le_trans h.len (by decide)⟩
def m_law_base (k : BaseS → Prop) : Prop := ∀ z, k z
def m_law_name (b : BaseS) (i : Int) (k : Nm → Prop) : Prop := (0 ≤ i ∧ i < 12) ∧ ∀ z : Nm, NameOk i.toNat z.1 → k z
abbrev sg_law_base : SpG := sgP (fun (_ : Unit) => []) (fun _ kk => m_law_base kk)
abbrev sg_law_name : SpG := sgP (fun (x : BaseS × Int) => [rp x.1, rp x.2]) (fun x kk => m_law_name x.1 x.2 kk)
theorem ok_law_base (T : Tx P K mg a) : FnOk P w K mg base CX0 2 a.f_law_base a.fd_law_base ["_law_pool_here"] (spG (sgK K a) sg_law_base) :=
  (ok_base T).imp fun vs H Q E ⟨F0, N, ds, μ, r, rv, _, p, l, k, e1, e2, hl, hm, q⟩ => ⟨F0, N, ds, μ, r, rv, p, l, e1, e2, hl, fun z l' hz hl' => q ⟨z, hz⟩ l' hl' (hm ⟨z, hz⟩)⟩
theorem ok_law_name (T : Tx P K mg a) : FnOk P w K mg base CX0 2 a.f_law_name a.fd_law_name ["_law_pool_here", "_law_base_here", "_law_k"] (spG (sgK K a) sg_law_name) :=
  (ok_name T).imp fun vs H Q E ⟨F0, N, ds, μ, r, rv, x, p, l, k, e1, e2, hl, hm, q⟩ => ⟨F0, N, ds, μ, r, rv, p, l, x.1.1, x.2, e1, e2, hl, x.1.2, hm.1, fun z l' hz hl' => q ⟨z, nm_of hz⟩ l' hl' (hm.2 ⟨z, nm_of hz⟩ hz)⟩

def m_law_is_only (v_error : XV) (v_k : Int) (k : Bool → Prop) : Prop :=
  (([(decide (v_error.c = 9)), (decide (v_error.c = 10)), (decide (v_error.c = 11))]).length + ([(decide (v_error.c = 2)), (decide (v_error.c = 3)), (decide (v_error.c = 12))]).length ≤ 16777216) ∧ ((([(decide (v_error.c = 9)), (decide (v_error.c = 10)), (decide (v_error.c = 11))] ++ [(decide (v_error.c = 2)), (decide (v_error.c = 3)), (decide (v_error.c = 12))]).length + ([(decide (v_error.c = 13)), (decide (v_error.c = 14))]).length ≤ 16777216) ∧ (forI (List.range (Int.toNat (8 : Int))) () (fun (x9 : Nat) (s6 : Unit) J7 => ∃ v11 : Bool, (atI (([(decide (v_error.c = 9)), (decide (v_error.c = 10)), (decide (v_error.c = 11))] ++ [(decide (v_error.c = 2)), (decide (v_error.c = 3)), (decide (v_error.c = 12))]) ++ [(decide (v_error.c = 13)), (decide (v_error.c = 14))]) (x9 : Int) = some v11) ∧ (((!(decide (v11 = decide ((x9 : Int) = v_k)))) = true → k false) ∧ ((!(decide (v11 = decide ((x9 : Int) = v_k)))) = false → J7 ()))) (fun s6 => k true)))
abbrev sg_law_is_only : SpG := sgN (fun (x : XV × Int) => [rp x.1, rp x.2]) (fun (x : XV × Int) kk => m_law_is_only x.1 x.2 kk)
theorem ok_law_is_only (T : Tx P K mg a) : FnOk P w K mg base CX0 1 a.f_law_is_only a.fd_law_is_only ["_law_error", "_law_k"] (spG (sgK K a) sg_law_is_only) := by
  refine fundN T.F_law_is_only sc_law_is_only (fun _ => rfl) (fun cdv A outer s H E x k hr h => ?_)
  obtain ⟨v_error, v_k⟩ := x
  have hu := hu_room hr
  have nd := sc_law_is_only.nd
  replace h : m_law_is_only v_error v_k k := h
  unfold m_law_is_only at h
  refine asgF 2 ?nd1 ?_
  case nd1 => exact nd
  refine ev_lst ?_
  refine ea_c ?_
  refine cB T.z_isinstance b_isinstance ?_
  refine ea_c ?_
  refine nm 0 ?_
  refine ea_c ?_
  refine ev_globR (by rfl) T.mgC_Repeated ?_
  refine ea_nil ?_
  refine cg_isX (xC T v_error.ok) (xK_Repeated T v_error.ok) ?_
  refine ea_c ?_
  refine cB T.z_isinstance b_isinstance ?_
  refine ea_c ?_
  refine nm 0 ?_
  refine ea_c ?_
  refine ev_globR (by rfl) T.mgC_Unknown ?_
  refine ea_nil ?_
  refine cg_isX (xC T v_error.ok) (xK_Unknown T v_error.ok) ?_
  refine ea_c ?_
  refine cB T.z_isinstance b_isinstance ?_
  refine ea_c ?_
  refine nm 0 ?_
  refine ea_c ?_
  refine ev_globR (by rfl) T.mgC_NoStep ?_
  refine ea_nil ?_
  refine cg_isX (xC T v_error.ok) (xK_NoStep T v_error.ok) ?_
  refine ea_few ?_
  refine asgF 2 ?nd2 ?_
  case nd2 => exact nd
  refine ev_bin ?_
  refine nm 2 ?_
  refine ev_lst ?_
  refine ea_c ?_
  refine cB T.z_isinstance b_isinstance ?_
  refine ea_c ?_
  refine nm 0 ?_
  refine ea_c ?_
  refine ev_globR (by rfl) T.mgC_BadCount ?_
  refine ea_nil ?_
  refine cg_isX (xC T v_error.ok) (xK_BadCount T v_error.ok) ?_
  refine ea_c ?_
  refine cB T.z_isinstance b_isinstance ?_
  refine ea_c ?_
  refine nm 0 ?_
  refine ea_c ?_
  refine ev_globR (by rfl) T.mgC_Lacking ?_
  refine ea_nil ?_
  refine cg_isX (xC T v_error.ok) (xK_Lacking T v_error.ok) ?_
  refine ea_c ?_
  refine cB T.z_isinstance b_isinstance ?_
  refine ea_c ?_
  refine nm 0 ?_
  refine ea_c ?_
  refine ev_globR (by rfl) T.mgC_Shut ?_
  refine ea_nil ?_
  refine cg_isX (xC T v_error.ok) (xK_Shut T v_error.ok) ?_
  refine ea_few ?_
  obtain ⟨g3, h⟩ := h
  refine op_addL ([(decide (v_error.c = 9)), (decide (v_error.c = 10)), (decide (v_error.c = 11))]) ([(decide (v_error.c = 2)), (decide (v_error.c = 3)), (decide (v_error.c = 12))]) (isl rfl) (isl rfl) g3 ?_
  refine asgF 2 ?nd4 ?_
  case nd4 => exact nd
  refine ev_bin ?_
  refine nm 2 ?_
  refine ev_lst ?_
  refine ea_c ?_
  refine cB T.z_isinstance b_isinstance ?_
  refine ea_c ?_
  refine nm 0 ?_
  refine ea_c ?_
  refine ev_globR (by rfl) T.mgC_Unmet ?_
  refine ea_nil ?_
  refine cg_isX (xC T v_error.ok) (xK_Unmet T v_error.ok) ?_
  refine ea_c ?_
  refine cB T.z_isinstance b_isinstance ?_
  refine ea_c ?_
  refine nm 0 ?_
  refine ea_c ?_
  refine ev_globR (by rfl) T.mgC_Never ?_
  refine ea_nil ?_
  refine cg_isX (xC T v_error.ok) (xK_Never T v_error.ok) ?_
  refine ea_few ?_
  obtain ⟨g5, h⟩ := h
  refine op_addL ([(decide (v_error.c = 9)), (decide (v_error.c = 10)), (decide (v_error.c = 11))] ++ [(decide (v_error.c = 2)), (decide (v_error.c = 3)), (decide (v_error.c = 12))]) ([(decide (v_error.c = 13)), (decide (v_error.c = 14))]) (isl rfl) (isl rfl) g5 ?_
  refine forb PassesOwn.never ?_
  refine ir1 T.z_range ?_
  refine ea_c ?_
  refine ev_int ?_
  refine ea_nil ?_
  refine ⟨(8 : Int), rfl, (by decide), forQ (xs := (List.range (Int.toNat (8 : Int)))) (s0 := ()) (f := fun x9 : Nat => rp (x9 : Int)) h (fun (s6 : Unit) Γ' μ' => ∃ (o8 : Option D) , Γ' = [some (rp v_error), some (rp v_k), some (rp (([(decide (v_error.c = 9)), (decide (v_error.c = 10)), (decide (v_error.c = 11))] ++ [(decide (v_error.c = 2)), (decide (v_error.c = 3)), (decide (v_error.c = 12))]) ++ [(decide (v_error.c = 13)), (decide (v_error.c = 14))])), o8] ∧ μ' = []) ⟨_, rfl, rfl⟩ (fun _ _ _ _ => trivial) (fun x9 s6 J7 Γ' μ' hx r h => ?_) (fun s6 Γ' μ' r h => ?_)⟩
  · obtain ⟨o8, rfl, rfl⟩ := r
    refine tn 3 ?nd10 ?_
    case nd10 => exact nd
    refine ifb ?_
    refine et_cmp ?_
    refine ixF ?_
    refine nm 2 ?_
    refine nm 3 ?_
    obtain ⟨v11, g12, h⟩ := h
    refine ix_l (([(decide (v_error.c = 9)), (decide (v_error.c = 10)), (decide (v_error.c = 11))] ++ [(decide (v_error.c = 2)), (decide (v_error.c = 3)), (decide (v_error.c = 12))]) ++ [(decide (v_error.c = 13)), (decide (v_error.c = 14))]) (isl rfl) g12 ?_
    refine ev_cmp ?_
    refine nm 3 ?_
    refine nm 1 ?_
    refine og_eqI ?_
    refine op_ne v11 (decide ((x9 : Int) = v_k)) hu .val .val ?_
    refine xb ?_
    refine ⟨fun ht => ?_, fun ht => ?_⟩
    · replace h := h.1 ht
      refine ret ?_
      refine ev_bl ?_
      refine ⟨false, rfl, h⟩
    replace h := h.2 ht
    refine nil ?_
    exact nil ⟨(), h, ⟨_, rfl, rfl⟩⟩
  obtain ⟨o8, rfl, rfl⟩ := r
  refine ret ?_
  refine ev_and ?_
  refine cB T.z_isinstance b_isinstance ?_
  refine ea_c ?_
  refine nm 0 ?_
  refine ea_c ?_
  refine ev_globR (by rfl) T.mgC_YardError ?_
  refine ea_nil ?_
  refine cg_isX (xC T v_error.ok) (xYE T v_error.ok) ?_
  refine xcntT ?_
  refine ev_and1 ?_
  refine cB T.z_isinstance b_isinstance ?_
  refine ea_c ?_
  refine nm 0 ?_
  refine ea_c ?_
  refine ev_bty (by rfl) T.z_ValueError b_ValueError ?_
  refine ea_nil ?_
  refine cg_isXt (xC T v_error.ok) (xVE T v_error.ok) ?_
  refine ⟨true, rfl, h⟩

def m_Hold_init (v_rows : (Sq (Nm × Nm))) (k : HoldV → Prop) (kx : KX) : Prop :=
  forI v_rows.l ([] : (List (Nm × Nm))) (fun (x7 : (Nm × Nm)) (s3 : (List (Nm × Nm))) J4 => ∃ J10 : (List (Nm × Nm)) → Prop, (((!(inb (x7.1, x7.2) s3)) = true → (s3.length < 16777216) ∧ (J10 (s3 ++ [(x7.1, x7.2)]))) ∧ ((!(inb (x7.1, x7.2) s3)) = false → J10 s3)) ∧ ∀ (s11 : (List (Nm × Nm))), J10 s11 → J4 s11) (fun s3 => k (HoldV.mk s3))
abbrev sg_Hold_init (a : Ad) : SpG := sgC a.C_Hold (fun (x : (Sq (Nm × Nm))) => [rp x]) (fun v : HoldV => [("rows", rp v.rows)]) (fun (x : (Sq (Nm × Nm))) kk kx => m_Hold_init x kk kx)
theorem ok_Hold_init (T : Tx P K mg a) : FnOk P w K mg base (L2.CX P w) 1 a.f_Hold_init a.fd_Hold_init ["self", "rows"] (spG (sgK K a) (sg_Hold_init a)) := by
  refine fundC T.F_Hold_init sc_Hold_init (fun _ => rfl) (fun cdv A outer s H E v_rows z k kx hr tk h => ?_)
  have hu := hu_room hr
  have nd := sc_Hold_init.nd
  replace h : m_Hold_init v_rows k kx := h
  unfold m_Hold_init at h
  refine asgF 2 ?nd2 ?_
  case nd2 => exact nd
  refine ev_lstE ?_
  refine ea_nil ⟨few, fun y1 hy1 => ?_⟩
  refine forb (passes_of rfl) ?_
  refine ig_val ?_
  refine nm 1 ?_
  refine it_S v_rows ?_
  refine forQ (xs := v_rows.l) (s0 := ([] : (List (Nm × Nm)))) (f := fun x7 : (Nm × Nm) => rp x7) h (fun (s3 : (List (Nm × Nm))) Γ' μ' => ∃ (o5 o6 : Option D) , Γ' = [some (.ref z), some (rp v_rows), some (.ref y1), o5, o6] ∧ μ' = [(z, .ins a.C_Hold []), (y1, .lst (List.map rp s3))]) ⟨_, _, rfl, rfl⟩ (fun _ _ _ _ => trivial) (fun x7 s3 J4 Γ' μ' hx r h => ?_) (fun s3 Γ' μ' r h => ?_)
  · obtain ⟨o5, o6, rfl, rfl⟩ := r
    refine tg_tup (n := 2) rfl rfl (hl := rfl) ?_
    refine tgs_cons ?_
    refine tn 3 ?nd8 ?_
    case nd8 => exact nd
    refine tgs_cons ?_
    refine tn 4 ?nd9 ?_
    case nd9 => exact nd
    refine tgs_nil ?_
    obtain ⟨J10, h, hJ⟩ := h
    refine seqP (fun Γ' μ' => ∃ (s11 : (List (Nm × Nm)))  , J10 s11 ∧ Γ' = [some (.ref z), some (rp v_rows), some (.ref y1), some (rp x7.1), some (rp x7.2)] ∧ μ' = [(z, .ins a.C_Hold []), (y1, .lst (List.map rp s11))]) ?_ ?_
    · refine st_if ?_
      refine et_cmp ?_
      refine ev_tup ?_
      refine ea_c ?_
      refine nm 3 ?_
      refine ea_c ?_
      refine nm 4 ?_
      refine ea_few ?_
      refine nm 2 ?_
      refine op_ni (x7.1, x7.2) s3 hu .val (IsL.mem (.tail _ (.head _))) ?_
      refine xb ?_
      refine ⟨fun ht => ?_, fun ht => ?_⟩
      · replace h := h.1 ht
        refine appF (α := (Nm × Nm)) (fun z => nm 2 z) (.tail _ (.head _)) ?_
        refine ev_tup ?_
        refine ea_c ?_
        refine nm 3 ?_
        refine ea_c ?_
        refine nm 4 ?_
        refine ea_few ?_
        obtain ⟨g12, h⟩ := h
        refine ⟨s3, (x7.1, x7.2), _, rfl, g12, (.there (.here)), ?_⟩
        exact nil ⟨(s3 ++ [(x7.1, x7.2)]), h, rfl, rfl⟩
      · replace h := h.2 ht
        exact nil ⟨s3, h, rfl, rfl⟩
    rintro _ _ ⟨s11, hs, rfl, rfl⟩
    replace h := hJ s11 hs
    exact nil ⟨s11, h, ⟨_, _, rfl, rfl⟩⟩
  obtain ⟨o5, o6, rfl, rfl⟩ := r
  refine bl_frz (i := 2) rfl ((.there (.here))) ?_
  refine bl_cons ?_
  refine st_fld T.cl_Hold T.na_Hold_rows ?_
  refine nm 2 ?_
  refine nm 0 ?_
  refine ⟨z, _, _, rfl, (.here), (by first | decide | (simp [putD]; done) | exact (show 1 < 1000 by decide) | exact (show 2 < 1000 by decide)), ?_⟩
  exact nil ⟨(HoldV.mk s3), _, rfl, h⟩
def m_law (k : Bool → Prop) : Prop :=
  m_law_base  (fun r2 => lcI (List.range (Int.toNat (3 : Int))) (fun (x5 : Nat) J6 => m_law_name r2 (x5 : Int) (fun r9 => J6 (some r9))) (fun acc7 : List Nm => (CMulW (2 : Int) ((10 : Int) ^ Int.toNat (30 : Int))) ∧ (drw (((2 : Int) * ((10 : Int) ^ Int.toNat (30 : Int))) + (1 : Int)) (fun r12 => ∃ v14 : Nm, (atI acc7 (0 : Int) = some v14) ∧ (∃ U16 : Bool → Prop, (m_law_is_only (XV.mk 9 [rp v14] (by decide)) (0 : Int) (fun r17 => ((!r17) = false → ∃ v18 : Nm, (atI acc7 (0 : Int) = some v18) ∧ (U16 (!(decide (v14 = v18))))) ∧ ((!r17) = true → U16 true))) ∧ ∀ b, U16 b → ((b = true → k false) ∧ (b = false → ∃ v21 : Nm, (atI acc7 (1 : Int) = some v21) ∧ (∃ U23 : Bool → Prop, (m_law_is_only (XV.mk 10 [rp v21] (by decide)) (1 : Int) (fun r24 => ((!r24) = false → ∃ v25 : Nm, (atI acc7 (1 : Int) = some v25) ∧ (U23 (!(decide (v21 = v25))))) ∧ ((!r24) = true → U23 true))) ∧ ∀ b, U23 b → ((b = true → k false) ∧ (b = false → ∃ v28 : Nm, (atI acc7 (0 : Int) = some v28) ∧ (∃ v30 : Nm, (atI acc7 (1 : Int) = some v30) ∧ (∃ U32 : Bool → Prop, (m_law_is_only (XV.mk 11 [rp v30, rp v28] (by decide)) (2 : Int) (fun r33 => ((!r33) = false → ∃ v34 : Nm, (atI acc7 (0 : Int) = some v34) ∧ (((!(decide (v28 = v34))) = false → ∃ v36 : Nm, (atI acc7 (1 : Int) = some v36) ∧ (U32 (!(decide (v30 = v36))))) ∧ ((!(decide (v28 = v34))) = true → U32 true))) ∧ ((!r33) = true → U32 true))) ∧ ∀ b, U32 b → ((b = true → k false) ∧ (b = false → ∃ U39 : Bool → Prop, (m_law_is_only (XV.mk 2 [rp (r12 - ((10 : Int) ^ Int.toNat (30 : Int)))] (by decide)) (3 : Int) (fun r40 => ((!r40) = false → (false = false → U39 (!(decide ((r12 - ((10 : Int) ^ Int.toNat (30 : Int))) = (r12 - ((10 : Int) ^ Int.toNat (30 : Int))))))) ∧ (false = true → U39 true)) ∧ ((!r40) = true → U39 true))) ∧ ∀ b, U39 b → ((b = true → k false) ∧ (b = false → ∃ v42 : Nm, (atI acc7 (1 : Int) = some v42) ∧ (∃ v44 : Nm, (atI acc7 (2 : Int) = some v44) ∧ (∃ U46 : Bool → Prop, (m_law_is_only (XV.mk 3 [rp v44, rp v42] (by decide)) (4 : Int) (fun r47 => ((!r47) = false → ∃ v48 : Nm, (atI acc7 (1 : Int) = some v48) ∧ (((!(decide (v42 = v48))) = false → ∃ v50 : Nm, (atI acc7 (2 : Int) = some v50) ∧ (U46 (!(decide (v44 = v50))))) ∧ ((!(decide (v42 = v48))) = true → U46 true))) ∧ ((!r47) = true → U46 true))) ∧ ∀ b, U46 b → ((b = true → k false) ∧ (b = false → ∃ v53 : Nm, (atI acc7 (2 : Int) = some v53) ∧ (∃ U55 : Bool → Prop, (m_law_is_only (XV.mk 12 [rp v53] (by decide)) (5 : Int) (fun r56 => ((!r56) = false → ∃ v57 : Nm, (atI acc7 (2 : Int) = some v57) ∧ (U55 (!(decide (v53 = v57))))) ∧ ((!r56) = true → U55 true))) ∧ ∀ b, U55 b → ((b = true → k false) ∧ (b = false → ∃ v60 : Nm, (atI acc7 (2 : Int) = some v60) ∧ (∃ v62 : Nm, (atI acc7 (0 : Int) = some v62) ∧ (∃ v64 : Nm, (atI acc7 (1 : Int) = some v64) ∧ (∃ U66 : Bool → Prop, (m_law_is_only (XV.mk 13 [rp v64, rp v62, rp v60] (by decide)) (6 : Int) (fun r67 => ((!r67) = false → ∃ v68 : Nm, (atI acc7 (2 : Int) = some v68) ∧ (((!(decide (v60 = v68))) = false → ∃ v70 : Nm, (atI acc7 (0 : Int) = some v70) ∧ (U66 (!(decide (v62 = v70))))) ∧ ((!(decide (v60 = v68))) = true → U66 true))) ∧ ((!r67) = true → U66 true))) ∧ ∀ b, U66 b → ((b = true → k false) ∧ (b = false → ∃ v72 : Nm, (atI acc7 (1 : Int) = some v72) ∧ (((!(decide (v64 = v72))) = true → k false) ∧ ((!(decide (v64 = v72))) = false → ∃ v76 : Nm, (atI acc7 (0 : Int) = some v76) ∧ (∃ v78 : Nm, (atI acc7 (1 : Int) = some v78) ∧ (∃ v80 : Nm, (atI acc7 (2 : Int) = some v80) ∧ (m_Hold_init (Sq.mk false ([(v78, v80)])) (fun r82 => ∃ v83 : Nm, (atI acc7 (2 : Int) = some v83) ∧ (m_Hold_init (Sq.mk true ([] : List (Nm × Nm))) (fun r85 => (∀ x : XV, x.c = 14 → m_law_is_only x (7 : Int) (fun r => r = true)) ∧ ∃ v, atI acc7 (1 : Int) = some v ∧ m_Hold_init (Sq.mk true []) (fun _ => k true) (fun _ _ => False)) (fun _ _ => False))) (fun _ _ => False))))))))))))))))))))))))))))))))))
theorem ok_lawG (T : Tx P K mg a) (h : m_law (fun b => b = true)) : FnOk P w K mg base CX0 9 a.f_law a.fd_law ["_law_script"] (spG (sgK K a) sg_law) := by
  refine fund_ok T.F_law sc_law (fun ds μ Q Ex h => ?_) (fun cdv A outer s H E ds μ Q Ex hr h0 => ?_)
  · obtain ⟨ns, rfl, _⟩ := h
    rfl
  obtain ⟨sc, rfl, hlen, rfl, q⟩ := h0
  have hu := hu_room hr
  have nd := sc_law.nd
  unfold m_law at h
  refine asg 1 nd ?_
  refine ev_call pool_mono (ok_pool T) (hr.mono (by decide)) rfl T.mg_law_pool T.F_law_pool.kp T.b_law_pool .nil (fun _ => .nil) pass0 ?_
  refine ea_cons ?_
  refine nm 0 ?_
  refine ea_nil ⟨[], [], Split.none _, sc, rfl, hlen, rfl, fun p l hl => ?_⟩
  refine bl_norm [some (.scr sc), some (.ref p), none, none, none, none, none, none] [(p, .lst l)] ?_
  refine asgF 2 ?nd1 ?_
  case nd1 => exact nd
  refine cF sgP_mono (ok_law_base T) (hr.mono (by decide)) T.mg_law_base T.F_law_base.kp T.b_law_base pass0 ?_
  refine ea_c ?_
  refine nm 1 ?_
  refine ea_nil ?_
  refine ask_p () rfl hl h (fun r2 l hl h => ?_)
  refine bl_norm [some (.scr sc), some (.ref p), some (rp r2), none, none, none, none, none] [(p, .lst l)] ?_
  refine bl_cons ?_
  refine st_setLc (i := 3) (own := [("_law_k", 4)]) (by rfl) ?nd3 (by rfl) (by rfl) (swaps_yes (by rfl) (by rfl) (by rfl) (by decide +kernel)) (blkOk_by (N := N_law) (sc := defScope s_law) (by decide +kernel)) (by rfl) ?_
  case nd3 => exact nd
  refine ir1 T.z_range ?_
  refine ea_c ?_
  refine ev_int ?_
  refine ea_nil ?_
  refine ⟨(3 : Int), rfl, (by decide), lcQ (xs := (List.range (Int.toNat (3 : Int)))) (f := fun x5 : Nat => rp (x5 : Int)) h (fun μ' => ∃ l, PoolOk l ∧ μ' = [(p, .lst l)]) ⟨l, hl, rfl⟩ (fun _ _ => trivial) (fun x5 J6 μ' hx r h k => ?_) (fun acc7 μ' r h => ?_)⟩
  · obtain ⟨l, hl, rfl⟩ := r
    refine tn 4 ?nd8 ?_
    case nd8 => exact nd
    refine fun k => ts_nil ⟨fun _ k => ?_, fun h => nomatch h⟩
    refine cF sgP_mono (ok_law_name T) (hr.mono (by decide)) T.mg_law_name T.F_law_name.kp T.b_law_name pass0 ?_
    refine ea_c ?_
    refine nm 1 ?_
    refine ea_c ?_
    refine nm 2 ?_
    refine ea_c ?_
    refine nm 4 ?_
    refine ea_nil ?_
    refine ask_p (r2, (x5 : Int)) rfl hl h (fun r9 l hl h => ?_)
    refine ⟨r9, rfl, h, l, hl, rfl⟩
  obtain ⟨l, hl, rfl⟩ := r
  refine bl_norm [some (.scr sc), some (.ref p), some (rp r2), some (rp acc7), none, none, none, none] [(p, .lst l)] ?_
  refine asgF 5 ?nd10 ?_
  case nd10 => exact nd
  refine ev_bin ?_
  refine cF take_mono (ok_take T) (hr.mono (by decide)) T.mg_law_take T.F_law_take.kp T.b_law_take pass0 ?_
  refine ea_c ?_
  refine nm 1 ?_
  refine ea_c ?_
  refine ev_bin ?_
  refine ev_bin ?_
  refine ev_int ?_
  refine ev_bin ?_
  refine ev_int ?_
  refine ev_int ?_
  refine og_powI cpw30 ?_
  obtain ⟨g11, h⟩ := h
  refine og_mulW g11 ?_
  refine ev_int ?_
  refine og_addI ?_
  refine ea_nil ?_
  refine ask_t hl h fun r12 l hl h => ?_
  refine ev_bin ?_
  refine ev_int ?_
  refine ev_int ?_
  refine og_powI cpw30 ?_
  refine og_subI ?_
  refine bl_norm [some (.scr sc), some (.ref p), some (rp r2), some (rp acc7), none, some (rp (r12 - ((10 : Int) ^ Int.toNat (30 : Int)))), none, none] [(p, .lst l)] ?_
  refine asgF 6 ?nd13 ?_
  case nd13 => exact nd
  refine ev_mkX (c := 9) (ex_Repeated T) (hr.mono (by decide)) T.mgC_Repeated ?_
  refine ea_c ?_
  refine ixF ?_
  refine nm 3 ?_
  refine ev_int ?_
  obtain ⟨v14, g15, h⟩ := h
  refine ix_l acc7 (isl rfl) g15 ?_
  refine ea_nil ⟨rfl, Nat.le_of_ble_eq_true rfl, fun _ _ r => txts_of (tx1 v14) r, ?_⟩
  refine bl_norm [some (.scr sc), some (.ref p), some (rp r2), some (rp acc7), none, some (rp (r12 - ((10 : Int) ^ Int.toNat (30 : Int)))), some (rp (XV.mk 9 [rp v14] (by decide))), none] [(p, .lst l)] ?_
  obtain ⟨U16, h, hU⟩ := h
  refine ifb ?_
  refine et_cut U16 (fun μ' => ∃ l, PoolOk l ∧ μ' = [(p, .lst l)]) ?_ (fun b μ' hb r => ?_)
  · refine et_w ?_
    refine ew_or ?_
    refine et_not ?_
    refine et_val ?_
    refine cF sgN_mono (ok_law_is_only T) (hr.mono (by decide)) T.mg_law_is_only T.F_law_is_only.kp T.b_law_is_only pass0 ?_
    refine ea_c ?_
    refine nm 6 ?_
    refine ea_c ?_
    refine ev_int ?_
    refine ea_nil ?_
    refine ask_n ((XV.mk 9 [rp v14] (by decide)), (0 : Int)) rfl h (fun r17 h => ?_)
    refine xb ?_
    refine ⟨fun ht => ?_, fun ht => ?_⟩
    · replace h := h.1 ht
      refine ew_or1 ?_
      refine et_cmp ?_
      refine ev_xv (c := 9) T.xf_Repeated T.na_Repeated_name nd_Repeated ?_
      refine nm 6 ?_
      refine xev (l := [rp v14]) (i := 0) (rp v14) (by rfl) (by rfl) ?_
      refine ixF ?_
      refine nm 3 ?_
      refine ev_int ?_
      obtain ⟨v18, g19, h⟩ := h
      refine ix_l acc7 (isl rfl) g19 ?_
      refine op_ne v14 v18 hu .val .val ?_
      refine xb ?_
      refine ⟨h, l, hl, rfl⟩
    · replace h := h.2 ht
      refine ⟨h, l, hl, rfl⟩
  obtain ⟨l, hl, rfl⟩ := r
  replace h := hU b hb
  refine ⟨fun ht => ?_, fun ht => ?_⟩
  · replace h := h.1 ht
    refine ret ?_
    refine ev_bl ?_
    refine law_end h q
  replace h := h.2 ht
  refine nil ?_
  refine asgF 6 ?nd20 ?_
  case nd20 => exact nd
  refine ev_mkX (c := 10) (ex_Unknown T) (hr.mono (by decide)) T.mgC_Unknown ?_
  refine ea_c ?_
  refine ixF ?_
  refine nm 3 ?_
  refine ev_int ?_
  obtain ⟨v21, g22, h⟩ := h
  refine ix_l acc7 (isl rfl) g22 ?_
  refine ea_nil ⟨rfl, Nat.le_of_ble_eq_true rfl, fun _ _ r => txts_of (tx1 v21) r, ?_⟩
  refine bl_norm [some (.scr sc), some (.ref p), some (rp r2), some (rp acc7), none, some (rp (r12 - ((10 : Int) ^ Int.toNat (30 : Int)))), some (rp (XV.mk 10 [rp v21] (by decide))), none] [(p, .lst l)] ?_
  obtain ⟨U23, h, hU⟩ := h
  refine ifb ?_
  refine et_cut U23 (fun μ' => ∃ l, PoolOk l ∧ μ' = [(p, .lst l)]) ?_ (fun b μ' hb r => ?_)
  · refine et_w ?_
    refine ew_or ?_
    refine et_not ?_
    refine et_val ?_
    refine cF sgN_mono (ok_law_is_only T) (hr.mono (by decide)) T.mg_law_is_only T.F_law_is_only.kp T.b_law_is_only pass0 ?_
    refine ea_c ?_
    refine nm 6 ?_
    refine ea_c ?_
    refine ev_int ?_
    refine ea_nil ?_
    refine ask_n ((XV.mk 10 [rp v21] (by decide)), (1 : Int)) rfl h (fun r24 h => ?_)
    refine xb ?_
    refine ⟨fun ht => ?_, fun ht => ?_⟩
    · replace h := h.1 ht
      refine ew_or1 ?_
      refine et_cmp ?_
      refine ev_xv (c := 10) T.xf_Unknown T.na_Unknown_name nd_Unknown ?_
      refine nm 6 ?_
      refine xev (l := [rp v21]) (i := 0) (rp v21) (by rfl) (by rfl) ?_
      refine ixF ?_
      refine nm 3 ?_
      refine ev_int ?_
      obtain ⟨v25, g26, h⟩ := h
      refine ix_l acc7 (isl rfl) g26 ?_
      refine op_ne v21 v25 hu .val .val ?_
      refine xb ?_
      refine ⟨h, l, hl, rfl⟩
    · replace h := h.2 ht
      refine ⟨h, l, hl, rfl⟩
  obtain ⟨l, hl, rfl⟩ := r
  replace h := hU b hb
  refine ⟨fun ht => ?_, fun ht => ?_⟩
  · replace h := h.1 ht
    refine ret ?_
    refine ev_bl ?_
    refine law_end h q
  replace h := h.2 ht
  refine nil ?_
  refine asgF 6 ?nd27 ?_
  case nd27 => exact nd
  refine ev_mkX (c := 11) (ex_NoStep T) (hr.mono (by decide)) T.mgC_NoStep ?_
  refine ea_c ?_
  refine ixF ?_
  refine nm 3 ?_
  refine ev_int ?_
  obtain ⟨v28, g29, h⟩ := h
  refine ix_l acc7 (isl rfl) g29 ?_
  refine ea_c ?_
  refine ixF ?_
  refine nm 3 ?_
  refine ev_int ?_
  obtain ⟨v30, g31, h⟩ := h
  refine ix_l acc7 (isl rfl) g31 ?_
  refine ea_nil ⟨rfl, Nat.le_of_ble_eq_true rfl, fun _ _ r => txts_of (tx2 v28 v30) r, ?_⟩
  refine bl_norm [some (.scr sc), some (.ref p), some (rp r2), some (rp acc7), none, some (rp (r12 - ((10 : Int) ^ Int.toNat (30 : Int)))), some (rp (XV.mk 11 [rp v30, rp v28] (by decide))), none] [(p, .lst l)] ?_
  obtain ⟨U32, h, hU⟩ := h
  refine ifb ?_
  refine et_cut U32 (fun μ' => ∃ l, PoolOk l ∧ μ' = [(p, .lst l)]) ?_ (fun b μ' hb r => ?_)
  · refine et_w ?_
    refine ew_or ?_
    refine et_not ?_
    refine et_val ?_
    refine cF sgN_mono (ok_law_is_only T) (hr.mono (by decide)) T.mg_law_is_only T.F_law_is_only.kp T.b_law_is_only pass0 ?_
    refine ea_c ?_
    refine nm 6 ?_
    refine ea_c ?_
    refine ev_int ?_
    refine ea_nil ?_
    refine ask_n ((XV.mk 11 [rp v30, rp v28] (by decide)), (2 : Int)) rfl h (fun r33 h => ?_)
    refine xb ?_
    refine ⟨fun ht => ?_, fun ht => ?_⟩
    · replace h := h.1 ht
      refine ew_or ?_
      refine et_cmp ?_
      refine ev_xv (c := 11) T.xf_NoStep T.na_NoStep_before nd_NoStep ?_
      refine nm 6 ?_
      refine xev (l := [rp v30, rp v28]) (i := 1) (rp v28) (by rfl) (by rfl) ?_
      refine ixF ?_
      refine nm 3 ?_
      refine ev_int ?_
      obtain ⟨v34, g35, h⟩ := h
      refine ix_l acc7 (isl rfl) g35 ?_
      refine op_ne v28 v34 hu .val .val ?_
      refine xb ?_
      refine ⟨fun ht => ?_, fun ht => ?_⟩
      · replace h := h.1 ht
        refine ew_or1 ?_
        refine et_cmp ?_
        refine ev_xv (c := 11) T.xf_NoStep T.na_NoStep_after nd_NoStep ?_
        refine nm 6 ?_
        refine xev (l := [rp v30, rp v28]) (i := 0) (rp v30) (by rfl) (by rfl) ?_
        refine ixF ?_
        refine nm 3 ?_
        refine ev_int ?_
        obtain ⟨v36, g37, h⟩ := h
        refine ix_l acc7 (isl rfl) g37 ?_
        refine op_ne v30 v36 hu .val .val ?_
        refine xb ?_
        refine ⟨h, l, hl, rfl⟩
      · replace h := h.2 ht
        refine ⟨h, l, hl, rfl⟩
    · replace h := h.2 ht
      refine ⟨h, l, hl, rfl⟩
  obtain ⟨l, hl, rfl⟩ := r
  replace h := hU b hb
  refine ⟨fun ht => ?_, fun ht => ?_⟩
  · replace h := h.1 ht
    refine ret ?_
    refine ev_bl ?_
    refine law_end h q
  replace h := h.2 ht
  refine nil ?_
  refine asgF 6 ?nd38 ?_
  case nd38 => exact nd
  refine ev_mkX (c := 2) (ex_BadCount T) (hr.mono (by decide)) T.mgC_BadCount ?_
  refine ea_c ?_
  refine nm 5 ?_
  refine ea_nil ⟨rfl, Nat.le_of_ble_eq_true rfl, fun _ _ _ => trivial, ?_⟩
  refine bl_norm [some (.scr sc), some (.ref p), some (rp r2), some (rp acc7), none, some (rp (r12 - ((10 : Int) ^ Int.toNat (30 : Int)))), some (rp (XV.mk 2 [rp (r12 - ((10 : Int) ^ Int.toNat (30 : Int)))] (by decide))), none] [(p, .lst l)] ?_
  obtain ⟨U39, h, hU⟩ := h
  refine ifb ?_
  refine et_cut U39 (fun μ' => ∃ l, PoolOk l ∧ μ' = [(p, .lst l)]) ?_ (fun b μ' hb r => ?_)
  · refine et_w ?_
    refine ew_or ?_
    refine et_not ?_
    refine et_val ?_
    refine cF sgN_mono (ok_law_is_only T) (hr.mono (by decide)) T.mg_law_is_only T.F_law_is_only.kp T.b_law_is_only pass0 ?_
    refine ea_c ?_
    refine nm 6 ?_
    refine ea_c ?_
    refine ev_int ?_
    refine ea_nil ?_
    refine ask_n ((XV.mk 2 [rp (r12 - ((10 : Int) ^ Int.toNat (30 : Int)))] (by decide)), (3 : Int)) rfl h (fun r40 h => ?_)
    refine xb ?_
    refine ⟨fun ht => ?_, fun ht => ?_⟩
    · replace h := h.1 ht
      refine ew_or ?_
      refine et_val ?_
      refine cB T.z_isinstance b_isinstance ?_
      refine ea_c ?_
      refine ev_xv (c := 2) T.xf_BadCount T.na_BadCount_count nd_BadCount ?_
      refine nm 6 ?_
      refine xev (l := [rp (r12 - ((10 : Int) ^ Int.toNat (30 : Int)))]) (i := 0) (rp (r12 - ((10 : Int) ^ Int.toNat (30 : Int)))) (by rfl) (by rfl) ?_
      refine ea_c ?_
      refine ev_bty (by rfl) T.z_bool b_bool ?_
      refine ea_nil ?_
      refine cg_isiT (by rfl) (.int _) (show PySem.W.kitOne K (.type "int") (.type "bool") = some false by kernel_rfl) ?_
      refine xb ?_
      refine ⟨fun ht => ?_, fun ht => ?_⟩
      · replace h := h.1 ht
        refine ew_or1 ?_
        refine et_cmp ?_
        refine ev_xv (c := 2) T.xf_BadCount T.na_BadCount_count nd_BadCount ?_
        refine nm 6 ?_
        refine xev (l := [rp (r12 - ((10 : Int) ^ Int.toNat (30 : Int)))]) (i := 0) (rp (r12 - ((10 : Int) ^ Int.toNat (30 : Int)))) (by rfl) (by rfl) ?_
        refine nm 5 ?_
        refine og_neI ?_
        refine xb ?_
        refine ⟨h, l, hl, rfl⟩
      · replace h := h.2 ht
        refine ⟨h, l, hl, rfl⟩
    · replace h := h.2 ht
      refine ⟨h, l, hl, rfl⟩
  obtain ⟨l, hl, rfl⟩ := r
  replace h := hU b hb
  refine ⟨fun ht => ?_, fun ht => ?_⟩
  · replace h := h.1 ht
    refine ret ?_
    refine ev_bl ?_
    refine law_end h q
  replace h := h.2 ht
  refine nil ?_
  refine asgF 6 ?nd41 ?_
  case nd41 => exact nd
  refine ev_mkX (c := 3) (ex_Lacking T) (hr.mono (by decide)) T.mgC_Lacking ?_
  refine ea_c ?_
  refine ixF ?_
  refine nm 3 ?_
  refine ev_int ?_
  obtain ⟨v42, g43, h⟩ := h
  refine ix_l acc7 (isl rfl) g43 ?_
  refine ea_c ?_
  refine ixF ?_
  refine nm 3 ?_
  refine ev_int ?_
  obtain ⟨v44, g45, h⟩ := h
  refine ix_l acc7 (isl rfl) g45 ?_
  refine ea_nil ⟨rfl, Nat.le_of_ble_eq_true rfl, fun _ _ r => txts_of (tx2 v42 v44) r, ?_⟩
  refine bl_norm [some (.scr sc), some (.ref p), some (rp r2), some (rp acc7), none, some (rp (r12 - ((10 : Int) ^ Int.toNat (30 : Int)))), some (rp (XV.mk 3 [rp v44, rp v42] (by decide))), none] [(p, .lst l)] ?_
  obtain ⟨U46, h, hU⟩ := h
  refine ifb ?_
  refine et_cut U46 (fun μ' => ∃ l, PoolOk l ∧ μ' = [(p, .lst l)]) ?_ (fun b μ' hb r => ?_)
  · refine et_w ?_
    refine ew_or ?_
    refine et_not ?_
    refine et_val ?_
    refine cF sgN_mono (ok_law_is_only T) (hr.mono (by decide)) T.mg_law_is_only T.F_law_is_only.kp T.b_law_is_only pass0 ?_
    refine ea_c ?_
    refine nm 6 ?_
    refine ea_c ?_
    refine ev_int ?_
    refine ea_nil ?_
    refine ask_n ((XV.mk 3 [rp v44, rp v42] (by decide)), (4 : Int)) rfl h (fun r47 h => ?_)
    refine xb ?_
    refine ⟨fun ht => ?_, fun ht => ?_⟩
    · replace h := h.1 ht
      refine ew_or ?_
      refine et_cmp ?_
      refine ev_xv (c := 3) T.xf_Lacking T.na_Lacking_kind nd_Lacking ?_
      refine nm 6 ?_
      refine xev (l := [rp v44, rp v42]) (i := 1) (rp v42) (by rfl) (by rfl) ?_
      refine ixF ?_
      refine nm 3 ?_
      refine ev_int ?_
      obtain ⟨v48, g49, h⟩ := h
      refine ix_l acc7 (isl rfl) g49 ?_
      refine op_ne v42 v48 hu .val .val ?_
      refine xb ?_
      refine ⟨fun ht => ?_, fun ht => ?_⟩
      · replace h := h.1 ht
        refine ew_or1 ?_
        refine et_cmp ?_
        refine ev_xv (c := 3) T.xf_Lacking T.na_Lacking_standing nd_Lacking ?_
        refine nm 6 ?_
        refine xev (l := [rp v44, rp v42]) (i := 0) (rp v44) (by rfl) (by rfl) ?_
        refine ixF ?_
        refine nm 3 ?_
        refine ev_int ?_
        obtain ⟨v50, g51, h⟩ := h
        refine ix_l acc7 (isl rfl) g51 ?_
        refine op_ne v44 v50 hu .val .val ?_
        refine xb ?_
        refine ⟨h, l, hl, rfl⟩
      · replace h := h.2 ht
        refine ⟨h, l, hl, rfl⟩
    · replace h := h.2 ht
      refine ⟨h, l, hl, rfl⟩
  obtain ⟨l, hl, rfl⟩ := r
  replace h := hU b hb
  refine ⟨fun ht => ?_, fun ht => ?_⟩
  · replace h := h.1 ht
    refine ret ?_
    refine ev_bl ?_
    refine law_end h q
  replace h := h.2 ht
  refine nil ?_
  refine asgF 6 ?nd52 ?_
  case nd52 => exact nd
  refine ev_mkX (c := 12) (ex_Shut T) (hr.mono (by decide)) T.mgC_Shut ?_
  refine ea_c ?_
  refine ixF ?_
  refine nm 3 ?_
  refine ev_int ?_
  obtain ⟨v53, g54, h⟩ := h
  refine ix_l acc7 (isl rfl) g54 ?_
  refine ea_nil ⟨rfl, Nat.le_of_ble_eq_true rfl, fun _ _ r => txts_of (tx1 v53) r, ?_⟩
  refine bl_norm [some (.scr sc), some (.ref p), some (rp r2), some (rp acc7), none, some (rp (r12 - ((10 : Int) ^ Int.toNat (30 : Int)))), some (rp (XV.mk 12 [rp v53] (by decide))), none] [(p, .lst l)] ?_
  obtain ⟨U55, h, hU⟩ := h
  refine ifb ?_
  refine et_cut U55 (fun μ' => ∃ l, PoolOk l ∧ μ' = [(p, .lst l)]) ?_ (fun b μ' hb r => ?_)
  · refine et_w ?_
    refine ew_or ?_
    refine et_not ?_
    refine et_val ?_
    refine cF sgN_mono (ok_law_is_only T) (hr.mono (by decide)) T.mg_law_is_only T.F_law_is_only.kp T.b_law_is_only pass0 ?_
    refine ea_c ?_
    refine nm 6 ?_
    refine ea_c ?_
    refine ev_int ?_
    refine ea_nil ?_
    refine ask_n ((XV.mk 12 [rp v53] (by decide)), (5 : Int)) rfl h (fun r56 h => ?_)
    refine xb ?_
    refine ⟨fun ht => ?_, fun ht => ?_⟩
    · replace h := h.1 ht
      refine ew_or1 ?_
      refine et_cmp ?_
      refine ev_xv (c := 12) T.xf_Shut T.na_Shut_door nd_Shut ?_
      refine nm 6 ?_
      refine xev (l := [rp v53]) (i := 0) (rp v53) (by rfl) (by rfl) ?_
      refine ixF ?_
      refine nm 3 ?_
      refine ev_int ?_
      obtain ⟨v57, g58, h⟩ := h
      refine ix_l acc7 (isl rfl) g58 ?_
      refine op_ne v53 v57 hu .val .val ?_
      refine xb ?_
      refine ⟨h, l, hl, rfl⟩
    · replace h := h.2 ht
      refine ⟨h, l, hl, rfl⟩
  obtain ⟨l, hl, rfl⟩ := r
  replace h := hU b hb
  refine ⟨fun ht => ?_, fun ht => ?_⟩
  · replace h := h.1 ht
    refine ret ?_
    refine ev_bl ?_
    refine law_end h q
  replace h := h.2 ht
  refine nil ?_
  refine asgF 6 ?nd59 ?_
  case nd59 => exact nd
  refine ev_mkX (c := 13) (ex_Unmet T) (hr.mono (by decide)) T.mgC_Unmet ?_
  refine ea_c ?_
  refine ixF ?_
  refine nm 3 ?_
  refine ev_int ?_
  obtain ⟨v60, g61, h⟩ := h
  refine ix_l acc7 (isl rfl) g61 ?_
  refine ea_c ?_
  refine ixF ?_
  refine nm 3 ?_
  refine ev_int ?_
  obtain ⟨v62, g63, h⟩ := h
  refine ix_l acc7 (isl rfl) g63 ?_
  refine ea_c ?_
  refine ixF ?_
  refine nm 3 ?_
  refine ev_int ?_
  obtain ⟨v64, g65, h⟩ := h
  refine ix_l acc7 (isl rfl) g65 ?_
  refine ea_nil ⟨rfl, Nat.le_of_ble_eq_true rfl, fun _ _ r => txts_of (tx3 v60 v62 v64) r, ?_⟩
  refine bl_norm [some (.scr sc), some (.ref p), some (rp r2), some (rp acc7), none, some (rp (r12 - ((10 : Int) ^ Int.toNat (30 : Int)))), some (rp (XV.mk 13 [rp v64, rp v62, rp v60] (by decide))), none] [(p, .lst l)] ?_
  obtain ⟨U66, h, hU⟩ := h
  refine ifb ?_
  refine et_cut U66 (fun μ' => ∃ l, PoolOk l ∧ μ' = [(p, .lst l)]) ?_ (fun b μ' hb r => ?_)
  · refine et_w ?_
    refine ew_or ?_
    refine et_not ?_
    refine et_val ?_
    refine cF sgN_mono (ok_law_is_only T) (hr.mono (by decide)) T.mg_law_is_only T.F_law_is_only.kp T.b_law_is_only pass0 ?_
    refine ea_c ?_
    refine nm 6 ?_
    refine ea_c ?_
    refine ev_int ?_
    refine ea_nil ?_
    refine ask_n ((XV.mk 13 [rp v64, rp v62, rp v60] (by decide)), (6 : Int)) rfl h (fun r67 h => ?_)
    refine xb ?_
    refine ⟨fun ht => ?_, fun ht => ?_⟩
    · replace h := h.1 ht
      refine ew_or ?_
      refine et_cmp ?_
      refine ev_xv (c := 13) T.xf_Unmet T.na_Unmet_kind nd_Unmet ?_
      refine nm 6 ?_
      refine xev (l := [rp v64, rp v62, rp v60]) (i := 2) (rp v60) (by rfl) (by rfl) ?_
      refine ixF ?_
      refine nm 3 ?_
      refine ev_int ?_
      obtain ⟨v68, g69, h⟩ := h
      refine ix_l acc7 (isl rfl) g69 ?_
      refine op_ne v60 v68 hu .val .val ?_
      refine xb ?_
      refine ⟨fun ht => ?_, fun ht => ?_⟩
      · replace h := h.1 ht
        refine ew_or1 ?_
        refine et_cmp ?_
        refine ev_xv (c := 13) T.xf_Unmet T.na_Unmet_standing nd_Unmet ?_
        refine nm 6 ?_
        refine xev (l := [rp v64, rp v62, rp v60]) (i := 1) (rp v62) (by rfl) (by rfl) ?_
        refine ixF ?_
        refine nm 3 ?_
        refine ev_int ?_
        obtain ⟨v70, g71, h⟩ := h
        refine ix_l acc7 (isl rfl) g71 ?_
        refine op_ne v62 v70 hu .val .val ?_
        refine xb ?_
        refine ⟨h, l, hl, rfl⟩
      · replace h := h.2 ht
        refine ⟨h, l, hl, rfl⟩
    · replace h := h.2 ht
      refine ⟨h, l, hl, rfl⟩
  obtain ⟨l, hl, rfl⟩ := r
  replace h := hU b hb
  refine ⟨fun ht => ?_, fun ht => ?_⟩
  · replace h := h.1 ht
    refine ret ?_
    refine ev_bl ?_
    refine law_end h q
  replace h := h.2 ht
  refine nil ?_
  refine ifb ?_
  refine et_cmp ?_
  refine ev_xv (c := 13) T.xf_Unmet T.na_Unmet_door nd_Unmet ?_
  refine nm 6 ?_
  refine xev (l := [rp v64, rp v62, rp v60]) (i := 0) (rp v64) (by rfl) (by rfl) ?_
  refine ixF ?_
  refine nm 3 ?_
  refine ev_int ?_
  obtain ⟨v72, g73, h⟩ := h
  refine ix_l acc7 (isl rfl) g73 ?_
  refine op_ne v64 v72 hu .val .val ?_
  refine xb ?_
  refine ⟨fun ht => ?_, fun ht => ?_⟩
  · replace h := h.1 ht
    refine ret ?_
    refine ev_bl ?_
    refine law_end h q
  replace h := h.2 ht
  refine nil ?_
  refine asgF 7 ?nd75 ?_
  case nd75 => exact nd
  refine ev_lstE ?_
  refine ea_c ?_
  refine ev_tup ?_
  refine ea_c ?_
  refine ev_tup ?_
  refine ea_c ?_
  refine ixF ?_
  refine nm 3 ?_
  refine ev_int ?_
  obtain ⟨v76, g77, h⟩ := h
  refine ix_l acc7 (isl rfl) g77 ?_
  refine ea_few ?_
  refine ea_c ?_
  refine cC (CX := L2.CX P w) sgC_mono T.mk_Hold (ok_Hold_init T) (hr.mono (by decide)) T.mgC_Hold T.b_Hold_init (pass_nx) ?_
  refine ea_c ?_
  refine ev_lst ?_
  refine ea_c ?_
  refine ev_tup ?_
  refine ea_c ?_
  refine ixF ?_
  refine nm 3 ?_
  refine ev_int ?_
  obtain ⟨v78, g79, h⟩ := h
  refine ix_l acc7 (isl rfl) g79 ?_
  refine ea_c ?_
  refine ixF ?_
  refine nm 3 ?_
  refine ev_int ?_
  obtain ⟨v80, g81, h⟩ := h
  refine ix_l acc7 (isl rfl) g81 ?_
  refine ea_few ?_
  refine ea_few ?_
  refine ea_nil ?_
  refine new_c (V := HoldV) 0 (fun (v : HoldV) => [rp v.rows]) (Sq.mk false ([(v78, v80)])) rfl h (fun r82 h => ?_) (fun c fs h hp => h.elim)
  refine ea_few ?_
  refine ea_c ?_
  refine ev_tup ?_
  refine ea_c ?_
  refine ev_tup ?_
  refine ea_c ?_
  refine ixF ?_
  refine nm 3 ?_
  refine ev_int ?_
  obtain ⟨v83, g84, h⟩ := h
  refine ix_l acc7 (isl rfl) g84 ?_
  refine ea_few ?_
  refine ea_c ?_
  refine cC0 (CX := L2.CX P w) sgC_mono T.mk_Hold (ok_Hold_init T) (hr.mono (by decide)) T.mgC_Hold T.bd_Hold_init (dds := [rp (Sq.mk true ([] : List (Nm × Nm)))]) (fun Hv => .cons (.tup ⟨T.td_Hold_init Hv, .inl rfl⟩ .nil) .nil) (pass_nx) ?_
  refine new_c (V := HoldV) 0 (fun (v : HoldV) => [rp v.rows]) (Sq.mk true ([] : List (Nm × Nm))) rfl h (fun r85 h => ?_) (fun c fs h hp => h.elim)
  refine ea_few ?_
  refine ea_few (fun y74 hy74 => ?_)
  refine bl_adrM y74 [D.tup [.tup [rp v76], rp r82], D.tup [.tup [rp v83], rp r85]] (fun as => [(p, .lst l), (y74, .lst (zipI as [D.tup [.tup [rp v76], rp r82], D.tup [.tup [rp v83], rp r85]]))]) (fun d hd => by rcases List.mem_cons.mp hd with rfl | hd; exact .tup _; rw [List.mem_singleton.mp hd]; exact .tup _) (fun as => .there .here) fun as has => ?_
  obtain ⟨b1, b2, rfl⟩ := two_of has
  obtain ⟨h1, v, hv, h⟩ := h
  refine asg 6 nd ?_
  refine ev_mkNv (c := 14) (nv_Never T) rfl (hr.mono (by decide)) T.mgC_Never ?_
  refine ea_c ?_
  refine nm 7 ?_
  refine ea_nil ⟨_, _, rfl, .l (.ref (.tail _ (.head _))), ?_⟩
  refine ifb ?_
  refine et_w ?_
  refine ew_or ?_
  refine et_not ?_
  refine et_val ?_
  refine cF sgN_mono (ok_law_is_only T) (hr.mono (by decide)) T.mg_law_is_only T.F_law_is_only.kp T.b_law_is_only pass0 ?_
  refine ea_c ?_
  refine nm 6 ?_
  refine ea_c ?_
  refine ev_int ?_
  refine ea_nil ?_
  refine ask_n (XV.mk 14 [.lst [.idn b1 (D.tup [.tup [rp v76], rp r82]), .idn b2 (D.tup [.tup [rp v83], rp r85])]] (by decide), (7 : Int)) rfl (h1 (XV.mk 14 [.lst [.idn b1 (D.tup [.tup [rp v76], rp r82]), .idn b2 (D.tup [.tup [rp v83], rp r85])]] (by decide)) rfl) (fun r90 h90 => ?_)
  subst h90
  refine xb ?_
  refine ⟨fun _ => ?_, (fun ht => nomatch ht)⟩
  refine ew_or1 ?_
  refine et_not ?_
  refine et_val ?_
  refine cB T.z_isinstance b_isinstance ?_
  refine ea_c ?_
  refine ev_xv (c := 14) T.xf_Never T.na_Never_closed nd_Never ?_
  refine nm 6 ?_
  refine xev (i := 0) (.lst [.idn b1 (D.tup [.tup [rp v76], rp r82]), .idn b2 (D.tup [.tup [rp v83], rp r85])]) (by rfl) (by rfl) ?_
  refine ea_c ?_
  refine ev_bty (by rfl) T.z_list b_list ?_
  refine ea_nil ?_
  refine cg_isiT (by rfl) (.lst (.val _)) kit_same ?_
  refine xb ?_
  refine ⟨(fun ht => nomatch ht), fun _ => ?_⟩
  refine nil ?_
  refine appD (a := y74) (fun z => nm 7 z) (.tail _ (.head _)) ?_
  refine ev_tup ?_
  refine ea_c ?_
  refine ev_tup ?_
  refine ea_c ?_
  refine ixF ?_
  refine nm 3 ?_
  refine ev_int ?_
  refine ix_l acc7 (isl rfl) hv ?_
  refine ea_few ?_
  refine ea_c ?_
  refine cC0 (CX := L2.CX P w) sgC_mono T.mk_Hold (ok_Hold_init T) (hr.mono (by decide)) T.mgC_Hold T.bd_Hold_init (dds := [rp (Sq.mk true ([] : List (Nm × Nm)))]) (fun Hv => .cons (.tup ⟨T.td_Hold_init Hv, .inl rfl⟩ .nil) .nil) (pass_nx) ?_
  refine new_c (V := HoldV) 0 (fun (v : HoldV) => [rp v.rows]) (Sq.mk true ([] : List (Nm × Nm))) rfl h (fun r91 h => ?_) (fun c fs h hp => h.elim)
  refine ea_few ?_
  refine ⟨[.idn b1 (D.tup [.tup [rp v76], rp r82]), .idn b2 (D.tup [.tup [rp v83], rp r85])], _, (show 2 < 16777216 by decide), .there .here, ?_⟩
  refine ret ?_
  refine ev_and ?_
  refine ev_cmp ?_
  refine ev_xv (c := 14) T.xf_Never T.na_Never_closed nd_Never ?_
  refine nm 6 ?_
  refine xev (i := 0) (.lst [.idn b1 (D.tup [.tup [rp v76], rp r82]), .idn b2 (D.tup [.tup [rp v83], rp r85])]) (by rfl) (by rfl) ?_
  refine ev_sl ?_
  refine nm 7 ?_
  refine po_no ?_
  refine po_so ?_
  refine ev_int ?_
  refine xi ?_
  refine slg_l (.ref (.tail _ (.head _))) ?_
  refine op_eqI hu [b1, b2] [D.tup [.tup [rp v76], rp r82], D.tup [.tup [rp v83], rp r85]] [D.tup [.tup [rp v76], rp r82], D.tup [.tup [rp v83], rp r85]] (.val _) (.val _) rfl rfl ?_
  refine ⟨_, rfl, fun _ => ?_, (fun ht => nomatch ht)⟩
  refine ev_and1 ?_
  refine ev_cmp ?_
  refine ev_xv (c := 14) T.xf_Never T.na_Never_closed nd_Never ?_
  refine nm 6 ?_
  refine xev (i := 0) (.lst [.idn b1 (D.tup [.tup [rp v76], rp r82]), .idn b2 (D.tup [.tup [rp v83], rp r85])]) (by rfl) (by rfl) ?_
  refine nm 7 ?_
  refine op_neL hu _ _ (.val _) (.ref (.tail _ (.head _))) (by show 2 ≠ 3; decide) ?_
  refine law_end h q
theorem ok_law_of (T : Tx P K mg a) (hm : m_law (fun b => b = true)) : FnOk P w K mg base CX0 9 a.f_law a.fd_law ["_law_script"] (spLaw K) :=
  (ok_lawG T hm).imp fun vs H Q E ⟨p, ns, hv, hs, hl, q⟩ => by
    subst hv
    have e : Ex H (vis (fun _ => none) H (adr [])) := fun b o h => vis_mk h rfl (fun h => nomatch h)
    refine ⟨fun _ => none, fun _ => none, [.scr ns], [], ⟨(fun _ _ h => nomatch h), (fun _ h => nomatch h), (fun _ _ h => nomatch h), List.nodup_nil, (fun _ h => nomatch h), (fun _ _ h => nomatch h)⟩, .cons (.scr (e.l hs)) .nil, ns, rfl, hl, rfl, fun μ' v H' r rv => ?_⟩
    cases rv
    exact q H'
theorem forI_unitI {α : Type} {xs : List α} {step : α → Unit → (Unit → Prop) → Prop} {K : Unit → Prop} (hs : ∀ x ∈ xs, ∀ J : Unit → Prop, J () → step x () J) (hk : K ()) : forI xs () step K :=
  ⟨fun _ _ => True, trivial, fun i x s hx _ => hs x (List.mem_of_getElem? hx) _ trivial, fun s _ => hk⟩
theorem only_at {c : Nat} {l : List D} {ok : c ∈ xNums} (i : Nat) (hi : i < 8) (hc : xNums[i]? = some c) {k : Bool → Prop} (hk : k true) : m_law_is_only ⟨c, l, ok⟩ (i : Int) k := by
  unfold m_law_is_only
  refine ⟨by show 3 + 3 ≤ _; decide, by show 6 + 2 ≤ _; decide, forI_unitI (fun j hj J hJ => ?_) hk⟩
  have hj : j < 8 := by simpa using hj
  have key : ∀ i j : Fin 8, ∀ c, xNums[i.1]? = some c → (decide (c = 9) :: decide (c = 10) :: decide (c = 11) :: decide (c = 2) :: decide (c = 3) :: decide (c = 12) :: decide (c = 13) :: [decide (c = 14)])[j.1]? = some (decide (j = i)) := by
    intro i j c h
    match i, h with
    | 0, h => cases h; revert j; decide
    | 1, h => cases h; revert j; decide
    | 2, h => cases h; revert j; decide
    | 3, h => cases h; revert j; decide
    | 4, h => cases h; revert j; decide
    | 5, h => cases h; revert j; decide
    | 6, h => cases h; revert j; decide
    | 7, h => cases h; revert j; decide
  have e := key ⟨i, hi⟩ ⟨j, hj⟩ c hc
  refine ⟨_, atN e, fun z => ?_, fun _ => hJ⟩
  have e2 : decide ((⟨j, hj⟩ : Fin 8) = ⟨i, hi⟩) = decide ((j : Int) = (i : Int)) := decide_eq_decide.mpr ⟨fun h => by rw [Fin.mk.inj h], fun h => Fin.ext (by show j = i; omega)⟩
  rw [e2] at z
  simp at z
theorem hold_any {s : Sq (Nm × Nm)} (hl : s.l.length ≤ 1) {k : HoldV → Prop} {kx : KX} (hk : ∀ h, k h) : m_Hold_init s k kx := by
  unfold m_Hold_init
  exact ⟨fun i t => t.length ≤ i, Nat.le_refl _, fun i x t hx ht => ⟨fun u => u.length ≤ i + 1, ⟨fun _ => ⟨by have := at_lt hx; omega, by show (t ++ [_]).length ≤ i + 1; rw [List.length_append]; exact Nat.add_le_add_right ht 1⟩, fun _ => Nat.le_succ_of_le ht⟩, fun u hu => hu⟩, fun t _ => hk _⟩
theorem law_true : m_law (fun b => b = true) := by
  intro z
  refine ⟨fun i acc => acc.length = i, rfl, fun i x acc hx hl => ?_, fun acc hl => ?_⟩
  · have hlt := at_lt hx
    rw [List.length_range] at hlt
    rw [List.getElem?_range (by omega)] at hx
    cases hx
    have h3 : i < 3 := hlt
    refine ⟨by omega, ⟨by omega, by omega⟩, fun z _ => ?_⟩
    show (acc ++ [z]).length = i + 1
    rw [List.length_append, hl]
    rfl
  match acc, hl with
  | [n0, n1, n2], _ =>
  have a0 : atI [n0, n1, n2] (0 : Int) = some n0 := atN (i := 0) rfl
  have a1 : atI [n0, n1, n2] (1 : Int) = some n1 := atN (i := 1) rfl
  have a2 : atI [n0, n1, n2] (2 : Int) = some n2 := atN (i := 2) rfl
  have e : ∀ x : Nm, (!(decide (x = x))) = false := fun x => by rw [decide_eq_true rfl]; rfl
  have U : ∀ {b : Bool} {P Q : Prop}, b = false → Q → ((b = true → P) ∧ (b = false → Q)) := fun h q => ⟨fun t => (by rw [h] at t; cases t), fun _ => q⟩
  have V : ∀ {P Q : Prop}, P → (((!true) = false → P) ∧ ((!true) = true → Q)) := fun p => ⟨fun _ => p, fun t => (by cases t)⟩
  have W : ∀ {x : Nm} {P Q : Prop}, P → (((!(decide (x = x))) = false → P) ∧ ((!(decide (x = x))) = true → Q)) := fun p => ⟨fun _ => p, fun t => (by rw [e] at t; cases t)⟩
  refine ⟨by unfold CMulW; decide +kernel, ⟨by decide +kernel, by decide +kernel⟩, fun r _ _ => ?_⟩
  refine ⟨n0, a0, fun b => b = false, only_at 0 (by decide) rfl (V ⟨n0, a0, e _⟩), fun b hb => U hb ?_⟩
  refine ⟨n1, a1, fun b => b = false, only_at 1 (by decide) rfl (V ⟨n1, a1, e _⟩), fun b hb => U hb ?_⟩
  refine ⟨n0, a0, n1, a1, fun b => b = false, only_at 2 (by decide) rfl (V ⟨n0, a0, W ⟨n1, a1, e _⟩⟩), fun b hb => U hb ?_⟩
  refine ⟨fun b => b = false, only_at 3 (by decide) rfl (V ⟨fun _ => by rw [decide_eq_true rfl]; rfl, fun t => (by cases t)⟩), fun b hb => U hb ?_⟩
  refine ⟨n1, a1, n2, a2, fun b => b = false, only_at 4 (by decide) rfl (V ⟨n1, a1, W ⟨n2, a2, e _⟩⟩), fun b hb => U hb ?_⟩
  refine ⟨n2, a2, fun b => b = false, only_at 5 (by decide) rfl (V ⟨n2, a2, e _⟩), fun b hb => U hb ?_⟩
  refine ⟨n2, a2, n0, a0, n1, a1, fun b => b = false, only_at 6 (by decide) rfl (V ⟨n2, a2, W ⟨n0, a0, e _⟩⟩), fun b hb => U hb ?_⟩
  refine ⟨n1, a1, U (e _) ⟨n0, a0, n1, a1, n2, a2, hold_any (by show 1 ≤ 1; decide) fun _ => ⟨n2, a2, hold_any (by show 0 ≤ 1; decide) fun _ => ⟨fun x hx => ?_, n1, a1, hold_any (by show 0 ≤ 1; decide) fun _ => rfl⟩⟩⟩⟩
  obtain ⟨c, l, ok⟩ := x
  subst hx
  exact only_at 7 (by decide) rfl rfl
theorem ok_law (T : Tx P K mg a) : FnOk P w K mg base CX0 9 a.f_law a.fd_law ["_law_script"] (spLaw K) := ok_law_of T law_true
end
theorem all_mk : LawOk := by
  unfold LawOk
  intro l w K h mg fa X G hfa C_Hold C_Repeated nm_Repeated q_Repeated N_Repeated bs_Repeated bm_Repeated sn_Repeated sb_Repeated ab_Repeated cl_Repeated dd_Repeated k0_Repeated k1_Repeated k2_Repeated k3_Repeated k5_Repeated C_Unknown nm_Unknown q_Unknown N_Unknown bs_Unknown bm_Unknown sn_Unknown sb_Unknown ab_Unknown cl_Unknown dd_Unknown k0_Unknown k1_Unknown k2_Unknown k3_Unknown k5_Unknown C_NoStep nm_NoStep q_NoStep N_NoStep bs_NoStep bm_NoStep sn_NoStep sb_NoStep ab_NoStep cl_NoStep dd_NoStep k0_NoStep k1_NoStep k2_NoStep k3_NoStep k5_NoStep C_BadCount nm_BadCount q_BadCount N_BadCount bs_BadCount bm_BadCount sn_BadCount sb_BadCount ab_BadCount cl_BadCount dd_BadCount k0_BadCount k1_BadCount k2_BadCount k3_BadCount k5_BadCount C_Lacking nm_Lacking q_Lacking N_Lacking bs_Lacking bm_Lacking sn_Lacking sb_Lacking ab_Lacking cl_Lacking dd_Lacking k0_Lacking k1_Lacking k2_Lacking k3_Lacking k5_Lacking C_Shut nm_Shut q_Shut N_Shut bs_Shut bm_Shut sn_Shut sb_Shut ab_Shut cl_Shut dd_Shut k0_Shut k1_Shut k2_Shut k3_Shut k5_Shut C_Unmet nm_Unmet q_Unmet N_Unmet bs_Unmet bm_Unmet sn_Unmet sb_Unmet ab_Unmet cl_Unmet dd_Unmet k0_Unmet k1_Unmet k2_Unmet k3_Unmet k5_Unmet C_Never nm_Never q_Never N_Never bs_Never bm_Never sn_Never sb_Never ab_Never cl_Never dd_Never k0_Never k1_Never k2_Never k3_Never k5_Never C_YardError f_Repeated_init cda_Repeated_init cc_Repeated_init od_1 an_1 sl_1 oc_1 kV_1 dc_1 pm_1 ct_1 ccl_Repeated_init cl_Repeated_init cdd_Repeated_init cld_Repeated_init cvs_Repeated_init ccs_Repeated_init csl_Repeated_init file_Repeated_init tf_Repeated_init f_Unknown_init cda_Unknown_init cc_Unknown_init od_2 an_2 sl_2 oc_2 kV_2 dc_2 pm_2 ct_2 ccl_Unknown_init cl_Unknown_init cdd_Unknown_init cld_Unknown_init cvs_Unknown_init ccs_Unknown_init csl_Unknown_init file_Unknown_init tf_Unknown_init f_NoStep_init cda_NoStep_init cc_NoStep_init od_5 an_5 sl_5 oc_5 kV_5 dc_5 pm_5 ct_5 ccl_NoStep_init cl_NoStep_init cdd_NoStep_init cld_NoStep_init cvs_NoStep_init ccs_NoStep_init csl_NoStep_init file_NoStep_init tf_NoStep_init f_BadCount_init cda_BadCount_init cc_BadCount_init od_0 an_0 sl_0 oc_0 kV_0 dc_0 pm_0 ct_0 ccl_BadCount_init cl_BadCount_init cdd_BadCount_init cld_BadCount_init cvs_BadCount_init ccs_BadCount_init csl_BadCount_init file_BadCount_init tf_BadCount_init f_Lacking_init cda_Lacking_init cc_Lacking_init od_3 an_3 sl_3 oc_3 kV_3 dc_3 pm_3 ct_3 ccl_Lacking_init cl_Lacking_init cdd_Lacking_init cld_Lacking_init cvs_Lacking_init ccs_Lacking_init csl_Lacking_init file_Lacking_init tf_Lacking_init f_Shut_init cda_Shut_init cc_Shut_init od_8 an_8 sl_8 oc_8 kV_8 dc_8 pm_8 ct_8 ccl_Shut_init cl_Shut_init cdd_Shut_init cld_Shut_init cvs_Shut_init ccs_Shut_init csl_Shut_init file_Shut_init tf_Shut_init f_Unmet_init cda_Unmet_init cc_Unmet_init od_6 an_6 sl_6 oc_6 kV_6 dc_6 pm_6 ct_6 ccl_Unmet_init cl_Unmet_init cdd_Unmet_init cld_Unmet_init cvs_Unmet_init ccs_Unmet_init csl_Unmet_init file_Unmet_init tf_Unmet_init f_Never_init cda_Never_init cc_Never_init od_7 an_7 sl_7 oc_7 kV_7 dc_7 pm_7 ct_7 ccl_Never_init cl_Never_init cdd_Never_init cld_Never_init cvs_Never_init ccs_Never_init csl_Never_init file_Never_init tf_Never_init f_Hold_init od_9 an_9 sl_9 oc_9 kV_9 dc_9 pm_9 cd_9 ct_9 t_Hold_init nt_Hold_init odt_Hold_init ode_Hold_init slt_Hold_init sle_Hold_init e_Hold_init ne_Hold_init ct1_Hold_init f_law_pool od_13 an_13 sl_13 oc_13 kV_13 dc_13 pm_13 cd_13 ct_13 f_law_take od_10 an_10 sl_10 oc_10 kV_10 dc_10 pm_10 cd_10 ct_10 f_law_base od_11 an_11 sl_11 oc_11 kV_11 dc_11 pm_11 cd_11 ct_11 f_law_name od_12 an_12 sl_12 oc_12 kV_12 dc_12 pm_12 cd_12 ct_12 f_law_is_only od_4 an_4 sl_4 oc_4 kV_4 dc_4 pm_4 cd_4 ct_4 f_law od_14 an_14 sl_14 oc_14 kV_14 dc_14 pm_14 cd_14 ct_14 aC_Hold aC_Repeated lC_Repeated rv_Repeated sa_Repeated eb_Repeated ty_Repeated kc_Repeated su_Repeated ve_Repeated mr_Repeated ga_Repeated gg_Repeated hd_Repeated na_Repeated_name aC_Unknown lC_Unknown rv_Unknown sa_Unknown eb_Unknown ty_Unknown kc_Unknown su_Unknown ve_Unknown mr_Unknown ga_Unknown gg_Unknown hd_Unknown na_Unknown_name aC_NoStep lC_NoStep rv_NoStep sa_NoStep eb_NoStep ty_NoStep kc_NoStep su_NoStep ve_NoStep mr_NoStep ga_NoStep gg_NoStep hd_NoStep na_NoStep_before na_NoStep_after aC_BadCount lC_BadCount rv_BadCount sa_BadCount eb_BadCount ty_BadCount kc_BadCount su_BadCount ve_BadCount mr_BadCount ga_BadCount gg_BadCount hd_BadCount na_BadCount_count aC_Lacking lC_Lacking rv_Lacking sa_Lacking eb_Lacking ty_Lacking kc_Lacking su_Lacking ve_Lacking mr_Lacking ga_Lacking gg_Lacking hd_Lacking na_Lacking_kind na_Lacking_standing aC_Shut lC_Shut rv_Shut sa_Shut eb_Shut ty_Shut kc_Shut su_Shut ve_Shut mr_Shut ga_Shut gg_Shut hd_Shut na_Shut_door aC_Unmet lC_Unmet rv_Unmet sa_Unmet eb_Unmet ty_Unmet kc_Unmet su_Unmet ve_Unmet mr_Unmet ga_Unmet gg_Unmet hd_Unmet na_Unmet_kind na_Unmet_standing na_Unmet_door aC_Never lC_Never rv_Never sa_Never eb_Never ty_Never kc_Never su_Never ve_Never mr_Never ga_Never gg_Never hd_Never na_Never_closed aC_YardError icx_YardError ty_YardError xa_Repeated xm_Repeated sx_Repeated_Unknown ne_x_Repeated_Unknown sx_Repeated_NoStep ne_x_Repeated_NoStep sx_Repeated_BadCount ne_x_Repeated_BadCount sx_Repeated_Lacking ne_x_Repeated_Lacking sx_Repeated_Shut ne_x_Repeated_Shut sx_Repeated_Unmet ne_x_Repeated_Unmet sx_Repeated_Never ne_x_Repeated_Never sx_Repeated_YardError ne_x_Repeated_YardError xa_Unknown xm_Unknown sx_Unknown_Repeated ne_x_Unknown_Repeated sx_Unknown_NoStep ne_x_Unknown_NoStep sx_Unknown_BadCount ne_x_Unknown_BadCount sx_Unknown_Lacking ne_x_Unknown_Lacking sx_Unknown_Shut ne_x_Unknown_Shut sx_Unknown_Unmet ne_x_Unknown_Unmet sx_Unknown_Never ne_x_Unknown_Never sx_Unknown_YardError ne_x_Unknown_YardError xa_NoStep xm_NoStep sx_NoStep_Repeated ne_x_NoStep_Repeated sx_NoStep_Unknown ne_x_NoStep_Unknown sx_NoStep_BadCount ne_x_NoStep_BadCount sx_NoStep_Lacking ne_x_NoStep_Lacking sx_NoStep_Shut ne_x_NoStep_Shut sx_NoStep_Unmet ne_x_NoStep_Unmet sx_NoStep_Never ne_x_NoStep_Never sx_NoStep_YardError ne_x_NoStep_YardError xa_BadCount xm_BadCount sx_BadCount_Repeated ne_x_BadCount_Repeated sx_BadCount_Unknown ne_x_BadCount_Unknown sx_BadCount_NoStep ne_x_BadCount_NoStep sx_BadCount_Lacking ne_x_BadCount_Lacking sx_BadCount_Shut ne_x_BadCount_Shut sx_BadCount_Unmet ne_x_BadCount_Unmet sx_BadCount_Never ne_x_BadCount_Never sx_BadCount_YardError ne_x_BadCount_YardError xa_Lacking xm_Lacking sx_Lacking_Repeated ne_x_Lacking_Repeated sx_Lacking_Unknown ne_x_Lacking_Unknown sx_Lacking_NoStep ne_x_Lacking_NoStep sx_Lacking_BadCount ne_x_Lacking_BadCount sx_Lacking_Shut ne_x_Lacking_Shut sx_Lacking_Unmet ne_x_Lacking_Unmet sx_Lacking_Never ne_x_Lacking_Never sx_Lacking_YardError ne_x_Lacking_YardError xa_Shut xm_Shut sx_Shut_Repeated ne_x_Shut_Repeated sx_Shut_Unknown ne_x_Shut_Unknown sx_Shut_NoStep ne_x_Shut_NoStep sx_Shut_BadCount ne_x_Shut_BadCount sx_Shut_Lacking ne_x_Shut_Lacking sx_Shut_Unmet ne_x_Shut_Unmet sx_Shut_Never ne_x_Shut_Never sx_Shut_YardError ne_x_Shut_YardError xa_Unmet xm_Unmet sx_Unmet_Repeated ne_x_Unmet_Repeated sx_Unmet_Unknown ne_x_Unmet_Unknown sx_Unmet_NoStep ne_x_Unmet_NoStep sx_Unmet_BadCount ne_x_Unmet_BadCount sx_Unmet_Lacking ne_x_Unmet_Lacking sx_Unmet_Shut ne_x_Unmet_Shut sx_Unmet_Never ne_x_Unmet_Never sx_Unmet_YardError ne_x_Unmet_YardError xa_Never xm_Never sx_Never_Repeated ne_x_Never_Repeated sx_Never_Unknown ne_x_Never_Unknown sx_Never_NoStep ne_x_Never_NoStep sx_Never_BadCount ne_x_Never_BadCount sx_Never_Lacking ne_x_Never_Lacking sx_Never_Shut ne_x_Never_Shut sx_Never_Unmet ne_x_Never_Unmet sx_Never_YardError ne_x_Never_YardError stat a_1 ti_Repeated_init l_1 c_1 cd1_Repeated_init cd2_Repeated_init cd3_Repeated_init cl1_Repeated_init a_2 ti_Unknown_init l_2 c_2 cd1_Unknown_init cd2_Unknown_init cd3_Unknown_init cl1_Unknown_init a_5 ti_NoStep_init l_5 c_5 cd1_NoStep_init cd2_NoStep_init cd3_NoStep_init cl1_NoStep_init a_0 ti_BadCount_init l_0 c_0 cd1_BadCount_init cd2_BadCount_init cd3_BadCount_init cl1_BadCount_init a_3 ti_Lacking_init l_3 c_3 cd1_Lacking_init cd2_Lacking_init cd3_Lacking_init cl1_Lacking_init a_8 ti_Shut_init l_8 c_8 cd1_Shut_init cd2_Shut_init cd3_Shut_init cl1_Shut_init a_6 ti_Unmet_init l_6 c_6 cd1_Unmet_init cd2_Unmet_init cd3_Unmet_init cl1_Unmet_init a_7 ti_Never_init l_7 c_7 cd1_Never_init cd2_Never_init cd3_Never_init cl1_Never_init topS a_9 i_9 l_9 c_9 k_9 t1_Hold_init e1_Hold_init a_13 l_13 c_13 k_13 a_10 l_10 c_10 k_10 a_11 l_11 c_11 k_11 a_12 l_12 c_12 k_12 a_4 l_4 c_4 k_4 a_law l_14 c_14 k_14 pg_Hold hd_Hold po_Hold sa_Hold mk_Hold kc_Hold ha_Hold hm_Hold sf_Hold nf_Hold nfl_Hold ic_Hold ty_Hold sl_Hold na_Hold_rows hn ht z_len z_all z_list z_int z_range z_isinstance z_iter z_bool z_super z_ValueError
  have e : fa = f_law := by
    have e := hfa.symm.trans (PySem.W.mg_of X G a_law)
    injection e with e
    injection e with e
  rw [e]
  have F_Hold_init : FunD K "__init__" "Hold.__init__" (defArgs s_Hold_init) (defBody s_Hold_init) (defScope s_Hold_init) [.ref e_Hold_init] [] f_Hold_init (PySem.W.fnOf "__init__" "Hold.__init__" (defArgs s_Hold_init) (defBody s_Hold_init) (defScope s_Hold_init) (.ref t_Hold_init) kV_9 dc_9 pm_9 an_9 cd_9 ct_9) := ⟨⟨oc_9, od_9, _, kV_9, dc_9, pm_9, an_9, cd_9, ct_9, sl_9, rfl, l_9, c_9, .inr ⟨by simp, t_Hold_init, _, [.ref e_Hold_init], _, rfl, t1_Hold_init, rfl, .cons rfl .nil⟩, .inl rfl⟩, k_9⟩
  obtain ⟨ds_Hold_init, vs_Hold_init, b_Hold_init⟩ := F_Hold_init.binds1 (ps := ["self", "rows"]) 2 1 (by simp) rfl fun _ _ _ _ _ _ _ us its hl hi => match us, its, hl, hi with | [_, _], [_], _, _ => ⟨_, rfl, rfl⟩
  cases vs_Hold_init
  have bd_Hold_init := F_Hold_init.binds1 (ps := ["self", "rows"]) 1 0 (by simp) rfl fun _ _ _ _ _ _ _ us its hl hi => match us, its, hl, hi with | [_], [_], _, _ => ⟨_, rfl, rfl⟩
  have F_law_pool := funD_of l_13 c_13 k_13
  have b_law_pool := F_law_pool.bindsN (ps := ["_law_script"]) fun _ _ _ _ _ _ us hl => match us, hl with | [_], _ => rfl
  have F_law_take := funD_of l_10 c_10 k_10
  have b_law_take := F_law_take.bindsN (ps := ["_law_pool_here", "_law_size"]) fun _ _ _ _ _ _ us hl => match us, hl with | [_, _], _ => rfl
  have F_law_base := funD_of l_11 c_11 k_11
  have b_law_base := F_law_base.bindsN (ps := ["_law_pool_here"]) fun _ _ _ _ _ _ us hl => match us, hl with | [_], _ => rfl
  have F_law_name := funD_of l_12 c_12 k_12
  have b_law_name := F_law_name.bindsN (ps := ["_law_pool_here", "_law_base_here", "_law_k"]) fun _ _ _ _ _ _ us hl => match us, hl with | [_, _, _], _ => rfl
  have F_law_is_only := funD_of l_4 c_4 k_4
  have b_law_is_only := F_law_is_only.bindsN (ps := ["_law_error", "_law_k"]) fun _ _ _ _ _ _ us hl => match us, hl with | [_, _], _ => rfl
  have F_law := funD_of l_14 c_14 k_14
  have b_law := F_law.bindsN (ps := ["_law_script"]) fun _ _ _ _ _ _ us hl => match us, hl with | [_], _ => rfl
  have FS_Repeated_init : FunS l.prog K "__init__" "Repeated.__init__" (defArgs s_Repeated_init) (defBody s_Repeated_init) (defScope s_Repeated_init) f_Repeated_init (PySem.W.ksFn "__init__" "Repeated.__init__" (defArgs s_Repeated_init) (defBody s_Repeated_init) (defScope s_Repeated_init) .none kV_1 dc_1 pm_1 an_1 (.ref cda_Repeated_init) ct_1 cc_Repeated_init) C_Repeated cda_Repeated_init cc_Repeated_init := ⟨⟨_, _, kV_1, dc_1, pm_1, an_1, ct_1, _, rfl, l_1, c_1⟩, ⟨_, _, _, _, _, _, cd1_Repeated_init, cd2_Repeated_init, cd3_Repeated_init⟩, ⟨_, _, _, cl1_Repeated_init⟩, topS⟩
  have FS_Unknown_init : FunS l.prog K "__init__" "Unknown.__init__" (defArgs s_Unknown_init) (defBody s_Unknown_init) (defScope s_Unknown_init) f_Unknown_init (PySem.W.ksFn "__init__" "Unknown.__init__" (defArgs s_Unknown_init) (defBody s_Unknown_init) (defScope s_Unknown_init) .none kV_2 dc_2 pm_2 an_2 (.ref cda_Unknown_init) ct_2 cc_Unknown_init) C_Unknown cda_Unknown_init cc_Unknown_init := ⟨⟨_, _, kV_2, dc_2, pm_2, an_2, ct_2, _, rfl, l_2, c_2⟩, ⟨_, _, _, _, _, _, cd1_Unknown_init, cd2_Unknown_init, cd3_Unknown_init⟩, ⟨_, _, _, cl1_Unknown_init⟩, topS⟩
  have FS_NoStep_init : FunS l.prog K "__init__" "NoStep.__init__" (defArgs s_NoStep_init) (defBody s_NoStep_init) (defScope s_NoStep_init) f_NoStep_init (PySem.W.ksFn "__init__" "NoStep.__init__" (defArgs s_NoStep_init) (defBody s_NoStep_init) (defScope s_NoStep_init) .none kV_5 dc_5 pm_5 an_5 (.ref cda_NoStep_init) ct_5 cc_NoStep_init) C_NoStep cda_NoStep_init cc_NoStep_init := ⟨⟨_, _, kV_5, dc_5, pm_5, an_5, ct_5, _, rfl, l_5, c_5⟩, ⟨_, _, _, _, _, _, cd1_NoStep_init, cd2_NoStep_init, cd3_NoStep_init⟩, ⟨_, _, _, cl1_NoStep_init⟩, topS⟩
  have FS_BadCount_init : FunS l.prog K "__init__" "BadCount.__init__" (defArgs s_BadCount_init) (defBody s_BadCount_init) (defScope s_BadCount_init) f_BadCount_init (PySem.W.ksFn "__init__" "BadCount.__init__" (defArgs s_BadCount_init) (defBody s_BadCount_init) (defScope s_BadCount_init) .none kV_0 dc_0 pm_0 an_0 (.ref cda_BadCount_init) ct_0 cc_BadCount_init) C_BadCount cda_BadCount_init cc_BadCount_init := ⟨⟨_, _, kV_0, dc_0, pm_0, an_0, ct_0, _, rfl, l_0, c_0⟩, ⟨_, _, _, _, _, _, cd1_BadCount_init, cd2_BadCount_init, cd3_BadCount_init⟩, ⟨_, _, _, cl1_BadCount_init⟩, topS⟩
  have FS_Lacking_init : FunS l.prog K "__init__" "Lacking.__init__" (defArgs s_Lacking_init) (defBody s_Lacking_init) (defScope s_Lacking_init) f_Lacking_init (PySem.W.ksFn "__init__" "Lacking.__init__" (defArgs s_Lacking_init) (defBody s_Lacking_init) (defScope s_Lacking_init) .none kV_3 dc_3 pm_3 an_3 (.ref cda_Lacking_init) ct_3 cc_Lacking_init) C_Lacking cda_Lacking_init cc_Lacking_init := ⟨⟨_, _, kV_3, dc_3, pm_3, an_3, ct_3, _, rfl, l_3, c_3⟩, ⟨_, _, _, _, _, _, cd1_Lacking_init, cd2_Lacking_init, cd3_Lacking_init⟩, ⟨_, _, _, cl1_Lacking_init⟩, topS⟩
  have FS_Shut_init : FunS l.prog K "__init__" "Shut.__init__" (defArgs s_Shut_init) (defBody s_Shut_init) (defScope s_Shut_init) f_Shut_init (PySem.W.ksFn "__init__" "Shut.__init__" (defArgs s_Shut_init) (defBody s_Shut_init) (defScope s_Shut_init) .none kV_8 dc_8 pm_8 an_8 (.ref cda_Shut_init) ct_8 cc_Shut_init) C_Shut cda_Shut_init cc_Shut_init := ⟨⟨_, _, kV_8, dc_8, pm_8, an_8, ct_8, _, rfl, l_8, c_8⟩, ⟨_, _, _, _, _, _, cd1_Shut_init, cd2_Shut_init, cd3_Shut_init⟩, ⟨_, _, _, cl1_Shut_init⟩, topS⟩
  have FS_Unmet_init : FunS l.prog K "__init__" "Unmet.__init__" (defArgs s_Unmet_init) (defBody s_Unmet_init) (defScope s_Unmet_init) f_Unmet_init (PySem.W.ksFn "__init__" "Unmet.__init__" (defArgs s_Unmet_init) (defBody s_Unmet_init) (defScope s_Unmet_init) .none kV_6 dc_6 pm_6 an_6 (.ref cda_Unmet_init) ct_6 cc_Unmet_init) C_Unmet cda_Unmet_init cc_Unmet_init := ⟨⟨_, _, kV_6, dc_6, pm_6, an_6, ct_6, _, rfl, l_6, c_6⟩, ⟨_, _, _, _, _, _, cd1_Unmet_init, cd2_Unmet_init, cd3_Unmet_init⟩, ⟨_, _, _, cl1_Unmet_init⟩, topS⟩
  have FS_Never_init : FunS l.prog K "__init__" "Never.__init__" (defArgs s_Never_init) (defBody s_Never_init) (defScope s_Never_init) f_Never_init (PySem.W.ksFn "__init__" "Never.__init__" (defArgs s_Never_init) (defBody s_Never_init) (defScope s_Never_init) .none kV_7 dc_7 pm_7 an_7 (.ref cda_Never_init) ct_7 cc_Never_init) C_Never cda_Never_init cc_Never_init := ⟨⟨_, _, kV_7, dc_7, pm_7, an_7, ct_7, _, rfl, l_7, c_7⟩, ⟨_, _, _, _, _, _, cd1_Never_init, cd2_Never_init, cd3_Never_init⟩, ⟨_, _, _, cl1_Never_init⟩, topS⟩
  let a : Ad := { C_Hold := C_Hold, C_Repeated := C_Repeated, C_Unknown := C_Unknown, C_NoStep := C_NoStep, C_BadCount := C_BadCount, C_Lacking := C_Lacking, C_Shut := C_Shut, C_Unmet := C_Unmet, C_Never := C_Never, C_YardError := C_YardError, f_Repeated_init := f_Repeated_init, fd_Repeated_init := PySem.W.ksFn "__init__" "Repeated.__init__" (defArgs s_Repeated_init) (defBody s_Repeated_init) (defScope s_Repeated_init) .none kV_1 dc_1 pm_1 an_1 (.ref cda_Repeated_init) ct_1 cc_Repeated_init, cda_Repeated_init := cda_Repeated_init, cc_Repeated_init := cc_Repeated_init, f_Unknown_init := f_Unknown_init, fd_Unknown_init := PySem.W.ksFn "__init__" "Unknown.__init__" (defArgs s_Unknown_init) (defBody s_Unknown_init) (defScope s_Unknown_init) .none kV_2 dc_2 pm_2 an_2 (.ref cda_Unknown_init) ct_2 cc_Unknown_init, cda_Unknown_init := cda_Unknown_init, cc_Unknown_init := cc_Unknown_init, f_NoStep_init := f_NoStep_init, fd_NoStep_init := PySem.W.ksFn "__init__" "NoStep.__init__" (defArgs s_NoStep_init) (defBody s_NoStep_init) (defScope s_NoStep_init) .none kV_5 dc_5 pm_5 an_5 (.ref cda_NoStep_init) ct_5 cc_NoStep_init, cda_NoStep_init := cda_NoStep_init, cc_NoStep_init := cc_NoStep_init, f_BadCount_init := f_BadCount_init, fd_BadCount_init := PySem.W.ksFn "__init__" "BadCount.__init__" (defArgs s_BadCount_init) (defBody s_BadCount_init) (defScope s_BadCount_init) .none kV_0 dc_0 pm_0 an_0 (.ref cda_BadCount_init) ct_0 cc_BadCount_init, cda_BadCount_init := cda_BadCount_init, cc_BadCount_init := cc_BadCount_init, f_Lacking_init := f_Lacking_init, fd_Lacking_init := PySem.W.ksFn "__init__" "Lacking.__init__" (defArgs s_Lacking_init) (defBody s_Lacking_init) (defScope s_Lacking_init) .none kV_3 dc_3 pm_3 an_3 (.ref cda_Lacking_init) ct_3 cc_Lacking_init, cda_Lacking_init := cda_Lacking_init, cc_Lacking_init := cc_Lacking_init, f_Shut_init := f_Shut_init, fd_Shut_init := PySem.W.ksFn "__init__" "Shut.__init__" (defArgs s_Shut_init) (defBody s_Shut_init) (defScope s_Shut_init) .none kV_8 dc_8 pm_8 an_8 (.ref cda_Shut_init) ct_8 cc_Shut_init, cda_Shut_init := cda_Shut_init, cc_Shut_init := cc_Shut_init, f_Unmet_init := f_Unmet_init, fd_Unmet_init := PySem.W.ksFn "__init__" "Unmet.__init__" (defArgs s_Unmet_init) (defBody s_Unmet_init) (defScope s_Unmet_init) .none kV_6 dc_6 pm_6 an_6 (.ref cda_Unmet_init) ct_6 cc_Unmet_init, cda_Unmet_init := cda_Unmet_init, cc_Unmet_init := cc_Unmet_init, f_Never_init := f_Never_init, fd_Never_init := PySem.W.ksFn "__init__" "Never.__init__" (defArgs s_Never_init) (defBody s_Never_init) (defScope s_Never_init) .none kV_7 dc_7 pm_7 an_7 (.ref cda_Never_init) ct_7 cc_Never_init, cda_Never_init := cda_Never_init, cc_Never_init := cc_Never_init, f_Hold_init := f_Hold_init, fd_Hold_init := fdOf F_Hold_init, t_Hold_init := e_Hold_init, f_law_pool := f_law_pool, fd_law_pool := fdOf F_law_pool, f_law_take := f_law_take, fd_law_take := fdOf F_law_take, f_law_base := f_law_base, fd_law_base := fdOf F_law_base, f_law_name := f_law_name, fd_law_name := fdOf F_law_name, f_law_is_only := f_law_is_only, fd_law_is_only := fdOf F_law_is_only, f_law := f_law, fd_law := fdOf F_law }
  have T : Tx l.prog K mg a := {
    cl_Hold := ⟨pg_Hold, hd_Hold, po_Hold, sa_Hold⟩,
    is_Hold := ⟨⟨pg_Hold, hd_Hold, po_Hold, sa_Hold⟩, ha_Hold, hn, ht, hm_Hold⟩,
    mk_Hold := ⟨mk_Hold, a_9, i_9, kc_Hold⟩,
    mgC_Hold := PySem.W.mg_of X G aC_Hold,
    sf_Hold := sf_Hold,
    nf_Hold := nf_Hold,
    nfl_Hold := nfl_Hold,
    ki_Hold := kit_same,
    kl_Hold := kit_other ic_Hold ty_Hold sl_Hold rfl,
    na_Hold_rows := na_Hold_rows,
    ec_Repeated := ⟨⟨⟨_, _, _, _, _, _, _, _, _, _, _, _, _, _, _, lC_Repeated, rv_Repeated⟩, sa_Repeated, eb_Repeated, ty_Repeated, kc_Repeated⟩, su_Repeated, ve_Repeated, mr_Repeated, stat⟩,
    mgC_Repeated := PySem.W.mg_of X G aC_Repeated,
    xf_Repeated := ⟨ga_Repeated, gg_Repeated, eb_Repeated, hd_Repeated⟩,
    na_Repeated_name := na_Repeated_name,
    xc_Repeated := ⟨ga_Repeated, gg_Repeated, eb_Repeated, hd_Repeated, xa_Repeated, hn, ht, xm_Repeated⟩,
    kv_Repeated := kit_type rfl ve_Repeated,
    kx_Repeated_Repeated := kit_same,
    kx_Repeated_Unknown := kit_other (cls_some lC_Unknown) ty_Unknown sx_Repeated_Unknown ne_x_Repeated_Unknown,
    kx_Repeated_NoStep := kit_other (cls_some lC_NoStep) ty_NoStep sx_Repeated_NoStep ne_x_Repeated_NoStep,
    kx_Repeated_BadCount := kit_other (cls_some lC_BadCount) ty_BadCount sx_Repeated_BadCount ne_x_Repeated_BadCount,
    kx_Repeated_Lacking := kit_other (cls_some lC_Lacking) ty_Lacking sx_Repeated_Lacking ne_x_Repeated_Lacking,
    kx_Repeated_Shut := kit_other (cls_some lC_Shut) ty_Shut sx_Repeated_Shut ne_x_Repeated_Shut,
    kx_Repeated_Unmet := kit_other (cls_some lC_Unmet) ty_Unmet sx_Repeated_Unmet ne_x_Repeated_Unmet,
    kx_Repeated_Never := kit_other (cls_some lC_Never) ty_Never sx_Repeated_Never ne_x_Repeated_Never,
    kx_Repeated_YardError := kit_other icx_YardError ty_YardError sx_Repeated_YardError ne_x_Repeated_YardError,
    ec_Unknown := ⟨⟨⟨_, _, _, _, _, _, _, _, _, _, _, _, _, _, _, lC_Unknown, rv_Unknown⟩, sa_Unknown, eb_Unknown, ty_Unknown, kc_Unknown⟩, su_Unknown, ve_Unknown, mr_Unknown, stat⟩,
    mgC_Unknown := PySem.W.mg_of X G aC_Unknown,
    xf_Unknown := ⟨ga_Unknown, gg_Unknown, eb_Unknown, hd_Unknown⟩,
    na_Unknown_name := na_Unknown_name,
    xc_Unknown := ⟨ga_Unknown, gg_Unknown, eb_Unknown, hd_Unknown, xa_Unknown, hn, ht, xm_Unknown⟩,
    kv_Unknown := kit_type rfl ve_Unknown,
    kx_Unknown_Repeated := kit_other (cls_some lC_Repeated) ty_Repeated sx_Unknown_Repeated ne_x_Unknown_Repeated,
    kx_Unknown_Unknown := kit_same,
    kx_Unknown_NoStep := kit_other (cls_some lC_NoStep) ty_NoStep sx_Unknown_NoStep ne_x_Unknown_NoStep,
    kx_Unknown_BadCount := kit_other (cls_some lC_BadCount) ty_BadCount sx_Unknown_BadCount ne_x_Unknown_BadCount,
    kx_Unknown_Lacking := kit_other (cls_some lC_Lacking) ty_Lacking sx_Unknown_Lacking ne_x_Unknown_Lacking,
    kx_Unknown_Shut := kit_other (cls_some lC_Shut) ty_Shut sx_Unknown_Shut ne_x_Unknown_Shut,
    kx_Unknown_Unmet := kit_other (cls_some lC_Unmet) ty_Unmet sx_Unknown_Unmet ne_x_Unknown_Unmet,
    kx_Unknown_Never := kit_other (cls_some lC_Never) ty_Never sx_Unknown_Never ne_x_Unknown_Never,
    kx_Unknown_YardError := kit_other icx_YardError ty_YardError sx_Unknown_YardError ne_x_Unknown_YardError,
    ec_NoStep := ⟨⟨⟨_, _, _, _, _, _, _, _, _, _, _, _, _, _, _, lC_NoStep, rv_NoStep⟩, sa_NoStep, eb_NoStep, ty_NoStep, kc_NoStep⟩, su_NoStep, ve_NoStep, mr_NoStep, stat⟩,
    mgC_NoStep := PySem.W.mg_of X G aC_NoStep,
    xf_NoStep := ⟨ga_NoStep, gg_NoStep, eb_NoStep, hd_NoStep⟩,
    na_NoStep_before := na_NoStep_before,
    na_NoStep_after := na_NoStep_after,
    xc_NoStep := ⟨ga_NoStep, gg_NoStep, eb_NoStep, hd_NoStep, xa_NoStep, hn, ht, xm_NoStep⟩,
    kv_NoStep := kit_type rfl ve_NoStep,
    kx_NoStep_Repeated := kit_other (cls_some lC_Repeated) ty_Repeated sx_NoStep_Repeated ne_x_NoStep_Repeated,
    kx_NoStep_Unknown := kit_other (cls_some lC_Unknown) ty_Unknown sx_NoStep_Unknown ne_x_NoStep_Unknown,
    kx_NoStep_NoStep := kit_same,
    kx_NoStep_BadCount := kit_other (cls_some lC_BadCount) ty_BadCount sx_NoStep_BadCount ne_x_NoStep_BadCount,
    kx_NoStep_Lacking := kit_other (cls_some lC_Lacking) ty_Lacking sx_NoStep_Lacking ne_x_NoStep_Lacking,
    kx_NoStep_Shut := kit_other (cls_some lC_Shut) ty_Shut sx_NoStep_Shut ne_x_NoStep_Shut,
    kx_NoStep_Unmet := kit_other (cls_some lC_Unmet) ty_Unmet sx_NoStep_Unmet ne_x_NoStep_Unmet,
    kx_NoStep_Never := kit_other (cls_some lC_Never) ty_Never sx_NoStep_Never ne_x_NoStep_Never,
    kx_NoStep_YardError := kit_other icx_YardError ty_YardError sx_NoStep_YardError ne_x_NoStep_YardError,
    ec_BadCount := ⟨⟨⟨_, _, _, _, _, _, _, _, _, _, _, _, _, _, _, lC_BadCount, rv_BadCount⟩, sa_BadCount, eb_BadCount, ty_BadCount, kc_BadCount⟩, su_BadCount, ve_BadCount, mr_BadCount, stat⟩,
    mgC_BadCount := PySem.W.mg_of X G aC_BadCount,
    xf_BadCount := ⟨ga_BadCount, gg_BadCount, eb_BadCount, hd_BadCount⟩,
    na_BadCount_count := na_BadCount_count,
    xc_BadCount := ⟨ga_BadCount, gg_BadCount, eb_BadCount, hd_BadCount, xa_BadCount, hn, ht, xm_BadCount⟩,
    kv_BadCount := kit_type rfl ve_BadCount,
    kx_BadCount_Repeated := kit_other (cls_some lC_Repeated) ty_Repeated sx_BadCount_Repeated ne_x_BadCount_Repeated,
    kx_BadCount_Unknown := kit_other (cls_some lC_Unknown) ty_Unknown sx_BadCount_Unknown ne_x_BadCount_Unknown,
    kx_BadCount_NoStep := kit_other (cls_some lC_NoStep) ty_NoStep sx_BadCount_NoStep ne_x_BadCount_NoStep,
    kx_BadCount_BadCount := kit_same,
    kx_BadCount_Lacking := kit_other (cls_some lC_Lacking) ty_Lacking sx_BadCount_Lacking ne_x_BadCount_Lacking,
    kx_BadCount_Shut := kit_other (cls_some lC_Shut) ty_Shut sx_BadCount_Shut ne_x_BadCount_Shut,
    kx_BadCount_Unmet := kit_other (cls_some lC_Unmet) ty_Unmet sx_BadCount_Unmet ne_x_BadCount_Unmet,
    kx_BadCount_Never := kit_other (cls_some lC_Never) ty_Never sx_BadCount_Never ne_x_BadCount_Never,
    kx_BadCount_YardError := kit_other icx_YardError ty_YardError sx_BadCount_YardError ne_x_BadCount_YardError,
    ec_Lacking := ⟨⟨⟨_, _, _, _, _, _, _, _, _, _, _, _, _, _, _, lC_Lacking, rv_Lacking⟩, sa_Lacking, eb_Lacking, ty_Lacking, kc_Lacking⟩, su_Lacking, ve_Lacking, mr_Lacking, stat⟩,
    mgC_Lacking := PySem.W.mg_of X G aC_Lacking,
    xf_Lacking := ⟨ga_Lacking, gg_Lacking, eb_Lacking, hd_Lacking⟩,
    na_Lacking_kind := na_Lacking_kind,
    na_Lacking_standing := na_Lacking_standing,
    xc_Lacking := ⟨ga_Lacking, gg_Lacking, eb_Lacking, hd_Lacking, xa_Lacking, hn, ht, xm_Lacking⟩,
    kv_Lacking := kit_type rfl ve_Lacking,
    kx_Lacking_Repeated := kit_other (cls_some lC_Repeated) ty_Repeated sx_Lacking_Repeated ne_x_Lacking_Repeated,
    kx_Lacking_Unknown := kit_other (cls_some lC_Unknown) ty_Unknown sx_Lacking_Unknown ne_x_Lacking_Unknown,
    kx_Lacking_NoStep := kit_other (cls_some lC_NoStep) ty_NoStep sx_Lacking_NoStep ne_x_Lacking_NoStep,
    kx_Lacking_BadCount := kit_other (cls_some lC_BadCount) ty_BadCount sx_Lacking_BadCount ne_x_Lacking_BadCount,
    kx_Lacking_Lacking := kit_same,
    kx_Lacking_Shut := kit_other (cls_some lC_Shut) ty_Shut sx_Lacking_Shut ne_x_Lacking_Shut,
    kx_Lacking_Unmet := kit_other (cls_some lC_Unmet) ty_Unmet sx_Lacking_Unmet ne_x_Lacking_Unmet,
    kx_Lacking_Never := kit_other (cls_some lC_Never) ty_Never sx_Lacking_Never ne_x_Lacking_Never,
    kx_Lacking_YardError := kit_other icx_YardError ty_YardError sx_Lacking_YardError ne_x_Lacking_YardError,
    ec_Shut := ⟨⟨⟨_, _, _, _, _, _, _, _, _, _, _, _, _, _, _, lC_Shut, rv_Shut⟩, sa_Shut, eb_Shut, ty_Shut, kc_Shut⟩, su_Shut, ve_Shut, mr_Shut, stat⟩,
    mgC_Shut := PySem.W.mg_of X G aC_Shut,
    xf_Shut := ⟨ga_Shut, gg_Shut, eb_Shut, hd_Shut⟩,
    na_Shut_door := na_Shut_door,
    xc_Shut := ⟨ga_Shut, gg_Shut, eb_Shut, hd_Shut, xa_Shut, hn, ht, xm_Shut⟩,
    kv_Shut := kit_type rfl ve_Shut,
    kx_Shut_Repeated := kit_other (cls_some lC_Repeated) ty_Repeated sx_Shut_Repeated ne_x_Shut_Repeated,
    kx_Shut_Unknown := kit_other (cls_some lC_Unknown) ty_Unknown sx_Shut_Unknown ne_x_Shut_Unknown,
    kx_Shut_NoStep := kit_other (cls_some lC_NoStep) ty_NoStep sx_Shut_NoStep ne_x_Shut_NoStep,
    kx_Shut_BadCount := kit_other (cls_some lC_BadCount) ty_BadCount sx_Shut_BadCount ne_x_Shut_BadCount,
    kx_Shut_Lacking := kit_other (cls_some lC_Lacking) ty_Lacking sx_Shut_Lacking ne_x_Shut_Lacking,
    kx_Shut_Shut := kit_same,
    kx_Shut_Unmet := kit_other (cls_some lC_Unmet) ty_Unmet sx_Shut_Unmet ne_x_Shut_Unmet,
    kx_Shut_Never := kit_other (cls_some lC_Never) ty_Never sx_Shut_Never ne_x_Shut_Never,
    kx_Shut_YardError := kit_other icx_YardError ty_YardError sx_Shut_YardError ne_x_Shut_YardError,
    ec_Unmet := ⟨⟨⟨_, _, _, _, _, _, _, _, _, _, _, _, _, _, _, lC_Unmet, rv_Unmet⟩, sa_Unmet, eb_Unmet, ty_Unmet, kc_Unmet⟩, su_Unmet, ve_Unmet, mr_Unmet, stat⟩,
    mgC_Unmet := PySem.W.mg_of X G aC_Unmet,
    xf_Unmet := ⟨ga_Unmet, gg_Unmet, eb_Unmet, hd_Unmet⟩,
    na_Unmet_kind := na_Unmet_kind,
    na_Unmet_standing := na_Unmet_standing,
    na_Unmet_door := na_Unmet_door,
    xc_Unmet := ⟨ga_Unmet, gg_Unmet, eb_Unmet, hd_Unmet, xa_Unmet, hn, ht, xm_Unmet⟩,
    kv_Unmet := kit_type rfl ve_Unmet,
    kx_Unmet_Repeated := kit_other (cls_some lC_Repeated) ty_Repeated sx_Unmet_Repeated ne_x_Unmet_Repeated,
    kx_Unmet_Unknown := kit_other (cls_some lC_Unknown) ty_Unknown sx_Unmet_Unknown ne_x_Unmet_Unknown,
    kx_Unmet_NoStep := kit_other (cls_some lC_NoStep) ty_NoStep sx_Unmet_NoStep ne_x_Unmet_NoStep,
    kx_Unmet_BadCount := kit_other (cls_some lC_BadCount) ty_BadCount sx_Unmet_BadCount ne_x_Unmet_BadCount,
    kx_Unmet_Lacking := kit_other (cls_some lC_Lacking) ty_Lacking sx_Unmet_Lacking ne_x_Unmet_Lacking,
    kx_Unmet_Shut := kit_other (cls_some lC_Shut) ty_Shut sx_Unmet_Shut ne_x_Unmet_Shut,
    kx_Unmet_Unmet := kit_same,
    kx_Unmet_Never := kit_other (cls_some lC_Never) ty_Never sx_Unmet_Never ne_x_Unmet_Never,
    kx_Unmet_YardError := kit_other icx_YardError ty_YardError sx_Unmet_YardError ne_x_Unmet_YardError,
    ec_Never := ⟨⟨⟨_, _, _, _, _, _, _, _, _, _, _, _, _, _, _, lC_Never, rv_Never⟩, sa_Never, eb_Never, ty_Never, kc_Never⟩, su_Never, ve_Never, mr_Never, stat⟩,
    mgC_Never := PySem.W.mg_of X G aC_Never,
    xf_Never := ⟨ga_Never, gg_Never, eb_Never, hd_Never⟩,
    na_Never_closed := na_Never_closed,
    xc_Never := ⟨ga_Never, gg_Never, eb_Never, hd_Never, xa_Never, hn, ht, xm_Never⟩,
    kv_Never := kit_type rfl ve_Never,
    kx_Never_Repeated := kit_other (cls_some lC_Repeated) ty_Repeated sx_Never_Repeated ne_x_Never_Repeated,
    kx_Never_Unknown := kit_other (cls_some lC_Unknown) ty_Unknown sx_Never_Unknown ne_x_Never_Unknown,
    kx_Never_NoStep := kit_other (cls_some lC_NoStep) ty_NoStep sx_Never_NoStep ne_x_Never_NoStep,
    kx_Never_BadCount := kit_other (cls_some lC_BadCount) ty_BadCount sx_Never_BadCount ne_x_Never_BadCount,
    kx_Never_Lacking := kit_other (cls_some lC_Lacking) ty_Lacking sx_Never_Lacking ne_x_Never_Lacking,
    kx_Never_Shut := kit_other (cls_some lC_Shut) ty_Shut sx_Never_Shut ne_x_Never_Shut,
    kx_Never_Unmet := kit_other (cls_some lC_Unmet) ty_Unmet sx_Never_Unmet ne_x_Never_Unmet,
    kx_Never_Never := kit_same,
    kx_Never_YardError := kit_other icx_YardError ty_YardError sx_Never_YardError ne_x_Never_YardError,
    mgC_YardError := PySem.W.mg_of X G aC_YardError,
    F_Repeated_init := FS_Repeated_init,
    b_Repeated_init := FS_Repeated_init.bindsS fun _ _ _ _ _ _ us hl => match us, hl with | [_, _], _ => rfl,
    at_Repeated_init := a_1,
    ti_Repeated_init := ti_Repeated_init,
    F_Unknown_init := FS_Unknown_init,
    b_Unknown_init := FS_Unknown_init.bindsS fun _ _ _ _ _ _ us hl => match us, hl with | [_, _], _ => rfl,
    at_Unknown_init := a_2,
    ti_Unknown_init := ti_Unknown_init,
    F_NoStep_init := FS_NoStep_init,
    b_NoStep_init := FS_NoStep_init.bindsS fun _ _ _ _ _ _ us hl => match us, hl with | [_, _, _], _ => rfl,
    at_NoStep_init := a_5,
    ti_NoStep_init := ti_NoStep_init,
    F_BadCount_init := FS_BadCount_init,
    b_BadCount_init := FS_BadCount_init.bindsS fun _ _ _ _ _ _ us hl => match us, hl with | [_, _], _ => rfl,
    at_BadCount_init := a_0,
    ti_BadCount_init := ti_BadCount_init,
    F_Lacking_init := FS_Lacking_init,
    b_Lacking_init := FS_Lacking_init.bindsS fun _ _ _ _ _ _ us hl => match us, hl with | [_, _, _], _ => rfl,
    at_Lacking_init := a_3,
    ti_Lacking_init := ti_Lacking_init,
    F_Shut_init := FS_Shut_init,
    b_Shut_init := FS_Shut_init.bindsS fun _ _ _ _ _ _ us hl => match us, hl with | [_, _], _ => rfl,
    at_Shut_init := a_8,
    ti_Shut_init := ti_Shut_init,
    F_Unmet_init := FS_Unmet_init,
    b_Unmet_init := FS_Unmet_init.bindsS fun _ _ _ _ _ _ us hl => match us, hl with | [_, _, _, _], _ => rfl,
    at_Unmet_init := a_6,
    ti_Unmet_init := ti_Unmet_init,
    F_Never_init := FS_Never_init,
    b_Never_init := FS_Never_init.bindsS fun _ _ _ _ _ _ us hl => match us, hl with | [_, _], _ => rfl,
    at_Never_init := a_7,
    ti_Never_init := ti_Never_init,
    F_Hold_init := F_Hold_init,
    b_Hold_init := b_Hold_init,
    bd_Hold_init := bd_Hold_init,
    td_Hold_init := fun H => .inr ⟨_, _, _, e1_Hold_init, rfl, rfl, by simp, .nil⟩,
    at_Hold_init := a_9,
    fn_Hold_init := i_9,
    F_law_pool := F_law_pool,
    b_law_pool := b_law_pool,
    mg_law_pool := PySem.W.mg_of X G a_13,
    F_law_take := F_law_take,
    b_law_take := b_law_take,
    mg_law_take := PySem.W.mg_of X G a_10,
    F_law_base := F_law_base,
    b_law_base := b_law_base,
    mg_law_base := PySem.W.mg_of X G a_11,
    F_law_name := F_law_name,
    b_law_name := b_law_name,
    mg_law_name := PySem.W.mg_of X G a_12,
    F_law_is_only := F_law_is_only,
    b_law_is_only := b_law_is_only,
    mg_law_is_only := PySem.W.mg_of X G a_4,
    F_law := F_law,
    b_law := b_law,
    mg_law := PySem.W.mg_of X G a_law,
    z_len := PySem.W.mg_none_of X G z_len,
    z_all := PySem.W.mg_none_of X G z_all,
    z_list := PySem.W.mg_none_of X G z_list,
    z_int := PySem.W.mg_none_of X G z_int,
    z_range := PySem.W.mg_none_of X G z_range,
    z_isinstance := PySem.W.mg_none_of X G z_isinstance,
    z_iter := PySem.W.mg_none_of X G z_iter,
    z_bool := PySem.W.mg_none_of X G z_bool,
    z_super := PySem.W.mg_none_of X G z_super,
    z_ValueError := PySem.W.mg_none_of X G z_ValueError }
  exact ⟨_, fun s v => F_law.bindsA (ps := ["_law_script"]) (fun _ _ _ _ _ _ us hl => match us, hl with | [_], _ => rfl) s [v] rfl, fun base _ _ => ok_law T⟩
end K01
theorem PySem.Challenge.cw_soundyard_k01_errors_and_fields_holds : PySem.Challenge.rw_soundyard_k01_errors_and_fields.Holds :=
  K01.early @K01.all_mk
