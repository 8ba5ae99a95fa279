import PyProof.Rows.All
import HandS.ClsMeth
import HandS.Conv
import HandS.Deep
import HandS.DeepEq
import HandS.Defaults
import HandS.Dict
import HandS.DictComp
import HandS.DictTup
import HandS.Ends
import HandS.Exc
import HandS.ExcCtx
import HandS.ExcField
import HandS.ExcInit
import HandS.ExcInitHot
import HandS.ExcIs
import HandS.FStr
import HandS.Finally
import HandS.Flt
import HandS.ForMost
import HandS.Hot
import HandS.HotCalls
import HandS.IsInst
import HandS.Iter
import HandS.IterVal
import HandS.ListItems
import HandS.MakeKwOnly
import HandS.MethStar
import HandS.More
import HandS.NoneIn
import HandS.OwnIter
import HandS.Property
import HandS.RaiseFrom
import HandS.Rev
import HandS.RevRange
import HandS.Star
import HandS.StrMore
import HandS.Strs
import HandS.SuiteRaise
import HandS.TryMany
import HandS.TupAny
import HandS.Wide
import HandS.Zip
import KE.DataFind
import KE.GoesEnum
import KE.GoesMore
import KE.GoesZip
import KE.KDictList
import KE.KDictZip
import KE.KExcIs
import KE.KExcSuper
import KE.KOpsOwn
import KE.KWithOwn
import KE.KxField
import OpenK.AllK
import PyProof.ListMulAny
import PyProof.ListMulRight
import PyProof.NeKinds
import PyProof.NsDelKeeps
import PyProof.RulesAs
import Wide.All
import Wide.FinOn
import PySem.Challenge.RW_soundyard_k08_rows_and_twins
set_option Elab.async false
set_option maxRecDepth 100000
set_option linter.all false
set_option maxHeartbeats 40000000
theorem PySem.W.Fast.tw14382868818891775424 : True := trivial
theorem PySem.W.Fast.tw13083290524070474315 : True := trivial
theorem PySem.W.Fast.tw6079040542244503926 : True := trivial
theorem PySem.W.Fast.tw2485498127667588662 : True := trivial
theorem PySem.W.Fast.tw14318104436949262671 : True := trivial
theorem PySem.W.Fast.tw11525785601140098226 : True := trivial
theorem PySem.W.Fast.tw16444745164908669563 : True := trivial
theorem PySem.W.Fast.tw12129135288629606299 : True := trivial
theorem PySem.W.Fast.tw1866531767446758428 : True := trivial
theorem PySem.W.Fast.tw13900554446694881084 : True := trivial
theorem PySem.W.Fast.tw1105456263802259034 : True := trivial
theorem PySem.W.Fast.tw6626088757944295098 : True := trivial
namespace GL
end GL
namespace K08
open PySem L2 GL
def top (i : Nat) : Stmt := PySem.Challenge.pw_soundyard_k08_rows_and_twins.main.body.getD i (.Pass ⟨0, 0, 0, 0⟩)
abbrev s_Steps_init : Stmt := inClass (top 6) 0
abbrev s_Steps_standings : Stmt := inClass (top 6) 1
abbrev s_Steps_allow : Stmt := inClass (top 6) 2
abbrev s_Steps_steps_from : Stmt := inClass (top 6) 3
abbrev s_Doors_init : Stmt := inClass (top 7) 0
abbrev s_Doors_iter : Stmt := inClass (top 7) 1
abbrev s_Doors_getitem : Stmt := inClass (top 7) 2
abbrev s_Doors_setitem : Stmt := inClass (top 7) 3
abbrev s_without_repeats : Stmt := top 8
abbrev s_Part_init : Stmt := inClass (top 9) 0
abbrev s_Part_row : Stmt := inClass (top 9) 1
abbrev s_Part_filled : Stmt := inClass (top 9) 2
abbrev s_Single_twin : Stmt := inClass (top 10) 1
abbrev s_Many_twin : Stmt := inClass (top 11) 1
abbrev s_law_pool : Stmt := top 13
abbrev s_law_take : Stmt := top 14
abbrev s_law_base : Stmt := top 15
abbrev s_law_name : Stmt := top 16
abbrev s_law_some : Stmt := top 17
abbrev s_law_told : Stmt := top 18
abbrev s_law_filled : Stmt := top 19
abbrev s_law_apart : Stmt := top 20
abbrev s_law : Stmt := top 21
abbrev s_Repeated_init : Stmt := inClass (top 2) 0
abbrev s_Unknown_init : Stmt := inClass (top 3) 0
abbrev s_NoStep_init : Stmt := inClass (top 4) 0
abbrev s_Single_row : Stmt := inClass (top 10) 0
abbrev s_Many_row : Stmt := inClass (top 11) 0
section
variable {P : Program} {w : World} {K : PySem.W.Frag} {mg : Str → Option Value} {base : Heap} {a : Ad}
def spLaw (K : PySem.W.Frag) : Sp := fun vs H Q _ => ∃ (a : Addr) (ns : List Int), vs = [.ref a] ∧ SqL K H a (ns.map V.int) ∧ ns.length ≤ 63 ∧ ∀ H', Q (.bl true) H'
end
def LawOk : Prop := ∀ {l : PySem.W.OpenLaw} {w : World} {K : PySem.W.Frag} {h : Heap} {mg : Str → Option Value} {fa : Addr} (X : K.In h) (G : h.Ns mainGlobals mg) (hfa : mg "law" = some (.ref fa))
    {C_Steps : Addr}
    {C_Doors : Addr}
    {C_Part : Addr}
    {C_Single : Addr}
    {C_Many : Addr}
    {C_Repeated : Addr}
    {nm_Repeated q_Repeated : Str} {N_Repeated : Addr} {bs_Repeated bm_Repeated : List Value} {sn_Repeated : List Str} {sb_Repeated : List Value} {ab_Repeated : Bool} {cl_Repeated : Option Bool} {dd_Repeated : Option Addr} {k0_Repeated k1_Repeated k2_Repeated k3_Repeated k5_Repeated : Option Value}
    {C_Unknown : Addr}
    {nm_Unknown q_Unknown : Str} {N_Unknown : Addr} {bs_Unknown bm_Unknown : List Value} {sn_Unknown : List Str} {sb_Unknown : List Value} {ab_Unknown : Bool} {cl_Unknown : Option Bool} {dd_Unknown : Option Addr} {k0_Unknown k1_Unknown k2_Unknown k3_Unknown k5_Unknown : Option Value}
    {C_NoStep : Addr}
    {nm_NoStep q_NoStep : Str} {N_NoStep : Addr} {bs_NoStep bm_NoStep : List Value} {sn_NoStep : List Str} {sb_NoStep : List Value} {ab_NoStep : Bool} {cl_NoStep : Option Bool} {dd_NoStep : Option Addr} {k0_NoStep k1_NoStep k2_NoStep k3_NoStep k5_NoStep : Option Value}
    {f_Repeated_init cda_Repeated_init cc_Repeated_init : Addr} {od_5 an_5 : Option Addr} {sl_5 : Array (Option Value)} {oc_5 kV_5 dc_5 pm_5 ct_5 : Value}
    {ccl_Repeated_init cl_Repeated_init : Value} {cdd_Repeated_init cld_Repeated_init : Option Addr} {cvs_Repeated_init : Array Value} {ccs_Repeated_init csl_Repeated_init : Array (Option Value)} {file_Repeated_init : Str} {tf_Repeated_init : Tok}
    {f_Unknown_init cda_Unknown_init cc_Unknown_init : Addr} {od_6 an_6 : Option Addr} {sl_6 : Array (Option Value)} {oc_6 kV_6 dc_6 pm_6 ct_6 : Value}
    {ccl_Unknown_init cl_Unknown_init : Value} {cdd_Unknown_init cld_Unknown_init : Option Addr} {cvs_Unknown_init : Array Value} {ccs_Unknown_init csl_Unknown_init : Array (Option Value)} {file_Unknown_init : Str} {tf_Unknown_init : Tok}
    {f_NoStep_init cda_NoStep_init cc_NoStep_init : Addr} {od_8 an_8 : Option Addr} {sl_8 : Array (Option Value)} {oc_8 kV_8 dc_8 pm_8 ct_8 : Value}
    {ccl_NoStep_init cl_NoStep_init : Value} {cdd_NoStep_init cld_NoStep_init : Option Addr} {cvs_NoStep_init : Array Value} {ccs_NoStep_init csl_NoStep_init : Array (Option Value)} {file_NoStep_init : Str} {tf_NoStep_init : Tok}
    {f_Single_row cda_Single_row cc_Single_row : Addr} {od_13 an_13 : Option Addr} {sl_13 : Array (Option Value)} {oc_13 kV_13 dc_13 pm_13 ct_13 : Value}
    {ccl_Single_row cl_Single_row : Value} {cdd_Single_row cld_Single_row : Option Addr} {cvs_Single_row : Array Value} {ccs_Single_row csl_Single_row : Array (Option Value)} {file_Single_row : Str} {tf_Single_row : Tok}
    {f_Many_row cda_Many_row cc_Many_row : Addr} {od_25 an_25 : Option Addr} {sl_25 : Array (Option Value)} {oc_25 kV_25 dc_25 pm_25 ct_25 : Value}
    {ccl_Many_row cl_Many_row : Value} {cdd_Many_row cld_Many_row : Option Addr} {cvs_Many_row : Array Value} {ccs_Many_row csl_Many_row : Array (Option Value)} {file_Many_row : Str} {tf_Many_row : Tok}
    {f_Steps_init : Addr} {od_14 an_14 : Option Addr} {sl_14 : Array (Option Value)} {oc_14 kV_14 dc_14 pm_14 cd_14 ct_14 : Value}
    {f_Steps_standings : Addr} {od_1 an_1 : Option Addr} {sl_1 : Array (Option Value)} {oc_1 kV_1 dc_1 pm_1 cd_1 ct_1 : Value}
    {f_Steps_allow : Addr} {od_9 an_9 : Option Addr} {sl_9 : Array (Option Value)} {oc_9 kV_9 dc_9 pm_9 cd_9 ct_9 : Value}
    {f_Steps_steps_from : Addr} {od_0 an_0 : Option Addr} {sl_0 : Array (Option Value)} {oc_0 kV_0 dc_0 pm_0 cd_0 ct_0 : Value}
    {f_Doors_init : Addr} {od_11 an_11 : Option Addr} {sl_11 : Array (Option Value)} {oc_11 kV_11 dc_11 pm_11 cd_11 ct_11 : Value}
    {f_Doors_iter : Addr} {od_15 an_15 : Option Addr} {sl_15 : Array (Option Value)} {oc_15 kV_15 dc_15 pm_15 cd_15 ct_15 : Value}
    {f_Doors_getitem : Addr} {od_4 an_4 : Option Addr} {sl_4 : Array (Option Value)} {oc_4 kV_4 dc_4 pm_4 cd_4 ct_4 : Value}
    {f_Doors_setitem : Addr} {od_3 an_3 : Option Addr} {sl_3 : Array (Option Value)} {oc_3 kV_3 dc_3 pm_3 cd_3 ct_3 : Value}
    {f_without_repeats : Addr} {od_2 an_2 : Option Addr} {sl_2 : Array (Option Value)} {oc_2 kV_2 dc_2 pm_2 cd_2 ct_2 : Value}
    {f_Part_init : Addr} {od_16 an_16 : Option Addr} {sl_16 : Array (Option Value)} {oc_16 kV_16 dc_16 pm_16 cd_16 ct_16 : Value}
    {f_Part_row : Addr} {od_22 an_22 : Option Addr} {sl_22 : Array (Option Value)} {oc_22 kV_22 dc_22 pm_22 cd_22 ct_22 : Value}
    {f_Part_filled : Addr} {od_10 an_10 : Option Addr} {sl_10 : Array (Option Value)} {oc_10 kV_10 dc_10 pm_10 cd_10 ct_10 : Value}
    {f_Single_twin : Addr} {od_7 an_7 : Option Addr} {sl_7 : Array (Option Value)} {oc_7 kV_7 dc_7 pm_7 cd_7 ct_7 : Value}
    {f_Many_twin : Addr} {od_17 an_17 : Option Addr} {sl_17 : Array (Option Value)} {oc_17 kV_17 dc_17 pm_17 cd_17 ct_17 : Value}
    {f_law_pool : Addr} {od_23 an_23 : Option Addr} {sl_23 : Array (Option Value)} {oc_23 kV_23 dc_23 pm_23 cd_23 ct_23 : Value}
    {f_law_take : Addr} {od_21 an_21 : Option Addr} {sl_21 : Array (Option Value)} {oc_21 kV_21 dc_21 pm_21 cd_21 ct_21 : Value}
    {f_law_base : Addr} {od_19 an_19 : Option Addr} {sl_19 : Array (Option Value)} {oc_19 kV_19 dc_19 pm_19 cd_19 ct_19 : Value}
    {f_law_name : Addr} {od_24 an_24 : Option Addr} {sl_24 : Array (Option Value)} {oc_24 kV_24 dc_24 pm_24 cd_24 ct_24 : Value}
    {f_law_some : Addr} {od_26 an_26 : Option Addr} {sl_26 : Array (Option Value)} {oc_26 kV_26 dc_26 pm_26 cd_26 ct_26 : Value}
    {f_law_told : Addr} {od_20 an_20 : Option Addr} {sl_20 : Array (Option Value)} {oc_20 kV_20 dc_20 pm_20 cd_20 ct_20 : Value}
    {f_law_filled : Addr} {od_12 an_12 : Option Addr} {sl_12 : Array (Option Value)} {oc_12 kV_12 dc_12 pm_12 cd_12 ct_12 : Value}
    {f_law_apart : Addr} {od_18 an_18 : Option Addr} {sl_18 : Array (Option Value)} {oc_18 kV_18 dc_18 pm_18 cd_18 ct_18 : Value}
    {f_law : Addr} {od_27 an_27 : Option Addr} {sl_27 : Array (Option Value)} {oc_27 kV_27 dc_27 pm_27 cd_27 ct_27 : Value}
    (aC_Steps : PySem.W.nsIn K mainGlobals "Steps" = some (some (.ref C_Steps)))
    (aC_Doors : PySem.W.nsIn K mainGlobals "Doors" = some (some (.ref C_Doors)))
    (aC_Part : PySem.W.nsIn K mainGlobals "Part" = some (some (.ref C_Part)))
    (aC_Single : PySem.W.nsIn K mainGlobals "Single" = some (some (.ref C_Single)))
    (aC_Many : PySem.W.nsIn K mainGlobals "Many" = some (some (.ref C_Many)))
    (aC_Repeated : PySem.W.nsIn K mainGlobals "Repeated" = some (some (.ref C_Repeated)))
    (lC_Repeated : K.lookup C_Repeated = some (excClassObj nm_Repeated q_Repeated C_Repeated N_Repeated bs_Repeated bm_Repeated true sn_Repeated sb_Repeated ab_Repeated cl_Repeated dd_Repeated k0_Repeated k1_Repeated k2_Repeated k3_Repeated k5_Repeated "ValueError.__new__"))
    (rv_Repeated : PySem.HandSPX.refsVE bm_Repeated = true)
    (sa_Repeated : PySem.W.findIn K (.ref C_Repeated) "__setattr__" = some (some (.builtin "object.__setattr__")))
    (eb_Repeated : PySem.W.subIn K (.ref C_Repeated) (.type "BaseException") = some true)
    (ty_Repeated : PySem.W.typeIn K (.ref C_Repeated) = some (.type "type"))
    (kc_Repeated : PySem.W.keepIn K (.ref C_Repeated) = true)
    (su_Repeated : PySem.W.ks_superIn K C_Repeated C_Repeated "__init__" = some (some (.builtin "ValueError.__init__")))
    (ve_Repeated : PySem.W.subIn K (.ref C_Repeated) (.type "ValueError") = some true)
    (mr_Repeated : PySem.W.mroIn K C_Repeated (.ref C_Repeated) = some true)
    (ga_Repeated : PySem.W.findIn K (.ref C_Repeated) "__getattribute__" = some (some (.builtin "BaseException.__getattribute__")))
    (gg_Repeated : PySem.W.findIn K (.ref C_Repeated) "__getattr__" = some none)
    (hd_Repeated : PySem.W.hasDictIn K C_Repeated = true)
    (na_Repeated_name : PySem.W.findIn K (.ref C_Repeated) "name" = some none)
    (aC_Unknown : PySem.W.nsIn K mainGlobals "Unknown" = some (some (.ref C_Unknown)))
    (lC_Unknown : K.lookup C_Unknown = some (excClassObj nm_Unknown q_Unknown C_Unknown N_Unknown bs_Unknown bm_Unknown true sn_Unknown sb_Unknown ab_Unknown cl_Unknown dd_Unknown k0_Unknown k1_Unknown k2_Unknown k3_Unknown k5_Unknown "ValueError.__new__"))
    (rv_Unknown : PySem.HandSPX.refsVE bm_Unknown = true)
    (sa_Unknown : PySem.W.findIn K (.ref C_Unknown) "__setattr__" = some (some (.builtin "object.__setattr__")))
    (eb_Unknown : PySem.W.subIn K (.ref C_Unknown) (.type "BaseException") = some true)
    (ty_Unknown : PySem.W.typeIn K (.ref C_Unknown) = some (.type "type"))
    (kc_Unknown : PySem.W.keepIn K (.ref C_Unknown) = true)
    (su_Unknown : PySem.W.ks_superIn K C_Unknown C_Unknown "__init__" = some (some (.builtin "ValueError.__init__")))
    (ve_Unknown : PySem.W.subIn K (.ref C_Unknown) (.type "ValueError") = some true)
    (mr_Unknown : PySem.W.mroIn K C_Unknown (.ref C_Unknown) = some true)
    (ga_Unknown : PySem.W.findIn K (.ref C_Unknown) "__getattribute__" = some (some (.builtin "BaseException.__getattribute__")))
    (gg_Unknown : PySem.W.findIn K (.ref C_Unknown) "__getattr__" = some none)
    (hd_Unknown : PySem.W.hasDictIn K C_Unknown = true)
    (na_Unknown_name : PySem.W.findIn K (.ref C_Unknown) "name" = some none)
    (aC_NoStep : PySem.W.nsIn K mainGlobals "NoStep" = some (some (.ref C_NoStep)))
    (lC_NoStep : K.lookup C_NoStep = some (excClassObj nm_NoStep q_NoStep C_NoStep N_NoStep bs_NoStep bm_NoStep true sn_NoStep sb_NoStep ab_NoStep cl_NoStep dd_NoStep k0_NoStep k1_NoStep k2_NoStep k3_NoStep k5_NoStep "ValueError.__new__"))
    (rv_NoStep : PySem.HandSPX.refsVE bm_NoStep = true)
    (sa_NoStep : PySem.W.findIn K (.ref C_NoStep) "__setattr__" = some (some (.builtin "object.__setattr__")))
    (eb_NoStep : PySem.W.subIn K (.ref C_NoStep) (.type "BaseException") = some true)
    (ty_NoStep : PySem.W.typeIn K (.ref C_NoStep) = some (.type "type"))
    (kc_NoStep : PySem.W.keepIn K (.ref C_NoStep) = true)
    (su_NoStep : PySem.W.ks_superIn K C_NoStep C_NoStep "__init__" = some (some (.builtin "ValueError.__init__")))
    (ve_NoStep : PySem.W.subIn K (.ref C_NoStep) (.type "ValueError") = some true)
    (mr_NoStep : PySem.W.mroIn K C_NoStep (.ref C_NoStep) = some true)
    (ga_NoStep : PySem.W.findIn K (.ref C_NoStep) "__getattribute__" = some (some (.builtin "BaseException.__getattribute__")))
    (gg_NoStep : PySem.W.findIn K (.ref C_NoStep) "__getattr__" = some none)
    (hd_NoStep : PySem.W.hasDictIn K C_NoStep = true)
    (na_NoStep_before : PySem.W.findIn K (.ref C_NoStep) "before" = some none)
    (na_NoStep_after : PySem.W.findIn K (.ref C_NoStep) "after" = some none)
    (stat : PySem.W.nsIn K cStatics "thirdparty.any" = some none)
    (a_5 : PySem.W.findIn K (.ref C_Repeated) "__init__" = some (some (.ref f_Repeated_init)))
    (ti_Repeated_init : PySem.W.typeIn K (.ref f_Repeated_init) = some (.type "function"))
    (l_5 : K.lookup f_Repeated_init = some ⟨oc_5, od_5, .func (PySem.W.ksFn "__init__" "Repeated.__init__" (defArgs s_Repeated_init) (defBody s_Repeated_init) (defScope s_Repeated_init) .none kV_5 dc_5 pm_5 an_5 (.ref cda_Repeated_init) ct_5 cc_Repeated_init), sl_5⟩)
    (c_5 : PySem.W.codeIn K (.ref cda_Repeated_init) "Repeated.__init__" = true)
    (cd1_Repeated_init : K.lookup cda_Repeated_init = some ⟨ccl_Repeated_init, cdd_Repeated_init, .fields cvs_Repeated_init, ccs_Repeated_init⟩)
    (cd2_Repeated_init : cvs_Repeated_init[2]? = some (.str file_Repeated_init tf_Repeated_init))
    (cd3_Repeated_init : ((l.prog.main.file : Str) == file_Repeated_init) = true)
    (cl1_Repeated_init : K.lookup cc_Repeated_init = some ⟨cl_Repeated_init, cld_Repeated_init, .cell (some (.ref C_Repeated)), csl_Repeated_init⟩)
    (a_6 : PySem.W.findIn K (.ref C_Unknown) "__init__" = some (some (.ref f_Unknown_init)))
    (ti_Unknown_init : PySem.W.typeIn K (.ref f_Unknown_init) = some (.type "function"))
    (l_6 : K.lookup f_Unknown_init = some ⟨oc_6, od_6, .func (PySem.W.ksFn "__init__" "Unknown.__init__" (defArgs s_Unknown_init) (defBody s_Unknown_init) (defScope s_Unknown_init) .none kV_6 dc_6 pm_6 an_6 (.ref cda_Unknown_init) ct_6 cc_Unknown_init), sl_6⟩)
    (c_6 : PySem.W.codeIn K (.ref cda_Unknown_init) "Unknown.__init__" = true)
    (cd1_Unknown_init : K.lookup cda_Unknown_init = some ⟨ccl_Unknown_init, cdd_Unknown_init, .fields cvs_Unknown_init, ccs_Unknown_init⟩)
    (cd2_Unknown_init : cvs_Unknown_init[2]? = some (.str file_Unknown_init tf_Unknown_init))
    (cd3_Unknown_init : ((l.prog.main.file : Str) == file_Unknown_init) = true)
    (cl1_Unknown_init : K.lookup cc_Unknown_init = some ⟨cl_Unknown_init, cld_Unknown_init, .cell (some (.ref C_Unknown)), csl_Unknown_init⟩)
    (a_8 : PySem.W.findIn K (.ref C_NoStep) "__init__" = some (some (.ref f_NoStep_init)))
    (ti_NoStep_init : PySem.W.typeIn K (.ref f_NoStep_init) = some (.type "function"))
    (l_8 : K.lookup f_NoStep_init = some ⟨oc_8, od_8, .func (PySem.W.ksFn "__init__" "NoStep.__init__" (defArgs s_NoStep_init) (defBody s_NoStep_init) (defScope s_NoStep_init) .none kV_8 dc_8 pm_8 an_8 (.ref cda_NoStep_init) ct_8 cc_NoStep_init), sl_8⟩)
    (c_8 : PySem.W.codeIn K (.ref cda_NoStep_init) "NoStep.__init__" = true)
    (cd1_NoStep_init : K.lookup cda_NoStep_init = some ⟨ccl_NoStep_init, cdd_NoStep_init, .fields cvs_NoStep_init, ccs_NoStep_init⟩)
    (cd2_NoStep_init : cvs_NoStep_init[2]? = some (.str file_NoStep_init tf_NoStep_init))
    (cd3_NoStep_init : ((l.prog.main.file : Str) == file_NoStep_init) = true)
    (cl1_NoStep_init : K.lookup cc_NoStep_init = some ⟨cl_NoStep_init, cld_NoStep_init, .cell (some (.ref C_NoStep)), csl_NoStep_init⟩)
    (a_13 : PySem.W.findIn K (.ref C_Single) "row" = some (some (.ref f_Single_row)))
    (ti_Single_row : PySem.W.typeIn K (.ref f_Single_row) = some (.type "function"))
    (l_13 : K.lookup f_Single_row = some ⟨oc_13, od_13, .func (PySem.W.ksFn "row" "Single.row" (defArgs s_Single_row) (defBody s_Single_row) (defScope s_Single_row) .none kV_13 dc_13 pm_13 an_13 (.ref cda_Single_row) ct_13 cc_Single_row), sl_13⟩)
    (c_13 : PySem.W.codeIn K (.ref cda_Single_row) "Single.row" = true)
    (cd1_Single_row : K.lookup cda_Single_row = some ⟨ccl_Single_row, cdd_Single_row, .fields cvs_Single_row, ccs_Single_row⟩)
    (cd2_Single_row : cvs_Single_row[2]? = some (.str file_Single_row tf_Single_row))
    (cd3_Single_row : ((l.prog.main.file : Str) == file_Single_row) = true)
    (cl1_Single_row : K.lookup cc_Single_row = some ⟨cl_Single_row, cld_Single_row, .cell (some (.ref C_Single)), csl_Single_row⟩)
    (a_25 : PySem.W.findIn K (.ref C_Many) "row" = some (some (.ref f_Many_row)))
    (ti_Many_row : PySem.W.typeIn K (.ref f_Many_row) = some (.type "function"))
    (l_25 : K.lookup f_Many_row = some ⟨oc_25, od_25, .func (PySem.W.ksFn "row" "Many.row" (defArgs s_Many_row) (defBody s_Many_row) (defScope s_Many_row) .none kV_25 dc_25 pm_25 an_25 (.ref cda_Many_row) ct_25 cc_Many_row), sl_25⟩)
    (c_25 : PySem.W.codeIn K (.ref cda_Many_row) "Many.row" = true)
    (cd1_Many_row : K.lookup cda_Many_row = some ⟨ccl_Many_row, cdd_Many_row, .fields cvs_Many_row, ccs_Many_row⟩)
    (cd2_Many_row : cvs_Many_row[2]? = some (.str file_Many_row tf_Many_row))
    (cd3_Many_row : ((l.prog.main.file : Str) == file_Many_row) = true)
    (cl1_Many_row : K.lookup cc_Many_row = some ⟨cl_Many_row, cld_Many_row, .cell (some (.ref C_Many)), csl_Many_row⟩)
    (su_Single_row : PySem.W.ks_superIn K C_Single C_Single "row" = some (some (.ref f_Part_row)))
    (mr_Single_row : PySem.W.mroIn K C_Single (.ref C_Single) = some true)
    (fi_Single_row : PySem.W.fnIn K f_Part_row = true)
    (k_13 : PySem.W.keepIn K (.ref f_Single_row) = true)
    (su_Many_row : PySem.W.ks_superIn K C_Many C_Many "row" = some (some (.ref f_Part_row)))
    (mr_Many_row : PySem.W.mroIn K C_Many (.ref C_Many) = some true)
    (fi_Many_row : PySem.W.fnIn K f_Part_row = true)
    (k_25 : PySem.W.keepIn K (.ref f_Many_row) = true)
    (topS : (l.prog.main.scope.names.lookup ("super" : Str)).isSome = false)
    (a_14 : PySem.W.findIn K (.ref C_Steps) "__init__" = some (some (.ref f_Steps_init)))
    (i_14 : PySem.W.isFn K (.ref f_Steps_init) = true)
    (l_14 : K.lookup f_Steps_init = some ⟨oc_14, od_14, .func (PySem.W.fnOf "__init__" "Steps.__init__" (defArgs s_Steps_init) (defBody s_Steps_init) (defScope s_Steps_init) .none kV_14 dc_14 pm_14 an_14 cd_14 ct_14), sl_14⟩)
    (c_14 : PySem.W.codeIn K cd_14 "Steps.__init__" = true)
    (k_14 : PySem.W.keepIn K (.ref f_Steps_init) = true)
    (a_1 : PySem.W.findIn K (.ref C_Steps) "standings" = some (some (.ref f_Steps_standings)))
    (i_1 : PySem.W.isFn K (.ref f_Steps_standings) = true)
    (l_1 : K.lookup f_Steps_standings = some ⟨oc_1, od_1, .func (PySem.W.fnOf "standings" "Steps.standings" (defArgs s_Steps_standings) (defBody s_Steps_standings) (defScope s_Steps_standings) .none kV_1 dc_1 pm_1 an_1 cd_1 ct_1), sl_1⟩)
    (c_1 : PySem.W.codeIn K cd_1 "Steps.standings" = true)
    (k_1 : PySem.W.keepIn K (.ref f_Steps_standings) = true)
    (a_9 : PySem.W.findIn K (.ref C_Steps) "allow" = some (some (.ref f_Steps_allow)))
    (i_9 : PySem.W.isFn K (.ref f_Steps_allow) = true)
    (l_9 : K.lookup f_Steps_allow = some ⟨oc_9, od_9, .func (PySem.W.fnOf "allow" "Steps.allow" (defArgs s_Steps_allow) (defBody s_Steps_allow) (defScope s_Steps_allow) .none kV_9 dc_9 pm_9 an_9 cd_9 ct_9), sl_9⟩)
    (c_9 : PySem.W.codeIn K cd_9 "Steps.allow" = true)
    (k_9 : PySem.W.keepIn K (.ref f_Steps_allow) = true)
    (a_0 : PySem.W.findIn K (.ref C_Steps) "steps_from" = some (some (.ref f_Steps_steps_from)))
    (i_0 : PySem.W.isFn K (.ref f_Steps_steps_from) = true)
    (l_0 : K.lookup f_Steps_steps_from = some ⟨oc_0, od_0, .func (PySem.W.fnOf "steps_from" "Steps.steps_from" (defArgs s_Steps_steps_from) (defBody s_Steps_steps_from) (defScope s_Steps_steps_from) .none kV_0 dc_0 pm_0 an_0 cd_0 ct_0), sl_0⟩)
    (c_0 : PySem.W.codeIn K cd_0 "Steps.steps_from" = true)
    (k_0 : PySem.W.keepIn K (.ref f_Steps_steps_from) = true)
    (a_11 : PySem.W.findIn K (.ref C_Doors) "__init__" = some (some (.ref f_Doors_init)))
    (i_11 : PySem.W.isFn K (.ref f_Doors_init) = true)
    (l_11 : K.lookup f_Doors_init = some ⟨oc_11, od_11, .func (PySem.W.fnOf "__init__" "Doors.__init__" (defArgs s_Doors_init) (defBody s_Doors_init) (defScope s_Doors_init) .none kV_11 dc_11 pm_11 an_11 cd_11 ct_11), sl_11⟩)
    (c_11 : PySem.W.codeIn K cd_11 "Doors.__init__" = true)
    (k_11 : PySem.W.keepIn K (.ref f_Doors_init) = true)
    (a_15 : PySem.W.findIn K (.ref C_Doors) "__iter__" = some (some (.ref f_Doors_iter)))
    (i_15 : PySem.W.isFn K (.ref f_Doors_iter) = true)
    (l_15 : K.lookup f_Doors_iter = some ⟨oc_15, od_15, .func (PySem.W.fnOf "__iter__" "Doors.__iter__" (defArgs s_Doors_iter) (defBody s_Doors_iter) (defScope s_Doors_iter) .none kV_15 dc_15 pm_15 an_15 cd_15 ct_15), sl_15⟩)
    (c_15 : PySem.W.codeIn K cd_15 "Doors.__iter__" = true)
    (k_15 : PySem.W.keepIn K (.ref f_Doors_iter) = true)
    (a_4 : PySem.W.findIn K (.ref C_Doors) "__getitem__" = some (some (.ref f_Doors_getitem)))
    (i_4 : PySem.W.isFn K (.ref f_Doors_getitem) = true)
    (fi_Doors_getitem : PySem.W.fnIn K f_Doors_getitem = true)
    (l_4 : K.lookup f_Doors_getitem = some ⟨oc_4, od_4, .func (PySem.W.fnOf "__getitem__" "Doors.__getitem__" (defArgs s_Doors_getitem) (defBody s_Doors_getitem) (defScope s_Doors_getitem) .none kV_4 dc_4 pm_4 an_4 cd_4 ct_4), sl_4⟩)
    (c_4 : PySem.W.codeIn K cd_4 "Doors.__getitem__" = true)
    (k_4 : PySem.W.keepIn K (.ref f_Doors_getitem) = true)
    (a_3 : PySem.W.findIn K (.ref C_Doors) "__setitem__" = some (some (.ref f_Doors_setitem)))
    (i_3 : PySem.W.isFn K (.ref f_Doors_setitem) = true)
    (l_3 : K.lookup f_Doors_setitem = some ⟨oc_3, od_3, .func (PySem.W.fnOf "__setitem__" "Doors.__setitem__" (defArgs s_Doors_setitem) (defBody s_Doors_setitem) (defScope s_Doors_setitem) .none kV_3 dc_3 pm_3 an_3 cd_3 ct_3), sl_3⟩)
    (c_3 : PySem.W.codeIn K cd_3 "Doors.__setitem__" = true)
    (k_3 : PySem.W.keepIn K (.ref f_Doors_setitem) = true)
    (a_2 : PySem.W.nsIn K mainGlobals "without_repeats" = some (some (.ref f_without_repeats)))
    (l_2 : K.lookup f_without_repeats = some ⟨oc_2, od_2, .func (PySem.W.fnOf "without_repeats" "without_repeats" (defArgs s_without_repeats) (defBody s_without_repeats) (defScope s_without_repeats) .none kV_2 dc_2 pm_2 an_2 cd_2 ct_2), sl_2⟩)
    (c_2 : PySem.W.codeIn K cd_2 "without_repeats" = true)
    (k_2 : PySem.W.keepIn K (.ref f_without_repeats) = true)
    (a_16 : PySem.W.findIn K (.ref C_Part) "__init__" = some (some (.ref f_Part_init)))
    (i_16 : PySem.W.isFn K (.ref f_Part_init) = true)
    (l_16 : K.lookup f_Part_init = some ⟨oc_16, od_16, .func (PySem.W.fnOf "__init__" "Part.__init__" (defArgs s_Part_init) (defBody s_Part_init) (defScope s_Part_init) .none kV_16 dc_16 pm_16 an_16 cd_16 ct_16), sl_16⟩)
    (c_16 : PySem.W.codeIn K cd_16 "Part.__init__" = true)
    (k_16 : PySem.W.keepIn K (.ref f_Part_init) = true)
    (a_22 : PySem.W.findIn K (.ref C_Part) "row" = some (some (.ref f_Part_row)))
    (i_22 : PySem.W.isFn K (.ref f_Part_row) = true)
    (l_22 : K.lookup f_Part_row = some ⟨oc_22, od_22, .func (PySem.W.fnOf "row" "Part.row" (defArgs s_Part_row) (defBody s_Part_row) (defScope s_Part_row) .none kV_22 dc_22 pm_22 an_22 cd_22 ct_22), sl_22⟩)
    (c_22 : PySem.W.codeIn K cd_22 "Part.row" = true)
    (k_22 : PySem.W.keepIn K (.ref f_Part_row) = true)
    (a_10 : PySem.W.findIn K (.ref C_Part) "filled" = some (some (.ref f_Part_filled)))
    (i_10 : PySem.W.isFn K (.ref f_Part_filled) = true)
    (l_10 : K.lookup f_Part_filled = some ⟨oc_10, od_10, .func (PySem.W.fnOf "filled" "Part.filled" (defArgs s_Part_filled) (defBody s_Part_filled) (defScope s_Part_filled) .none kV_10 dc_10 pm_10 an_10 cd_10 ct_10), sl_10⟩)
    (c_10 : PySem.W.codeIn K cd_10 "Part.filled" = true)
    (k_10 : PySem.W.keepIn K (.ref f_Part_filled) = true)
    (a_7 : PySem.W.findIn K (.ref C_Single) "twin" = some (some (.ref f_Single_twin)))
    (i_7 : PySem.W.isFn K (.ref f_Single_twin) = true)
    (l_7 : K.lookup f_Single_twin = some ⟨oc_7, od_7, .func (PySem.W.fnOf "twin" "Single.twin" (defArgs s_Single_twin) (defBody s_Single_twin) (defScope s_Single_twin) .none kV_7 dc_7 pm_7 an_7 cd_7 ct_7), sl_7⟩)
    (c_7 : PySem.W.codeIn K cd_7 "Single.twin" = true)
    (k_7 : PySem.W.keepIn K (.ref f_Single_twin) = true)
    (a_17 : PySem.W.findIn K (.ref C_Many) "twin" = some (some (.ref f_Many_twin)))
    (i_17 : PySem.W.isFn K (.ref f_Many_twin) = true)
    (l_17 : K.lookup f_Many_twin = some ⟨oc_17, od_17, .func (PySem.W.fnOf "twin" "Many.twin" (defArgs s_Many_twin) (defBody s_Many_twin) (defScope s_Many_twin) .none kV_17 dc_17 pm_17 an_17 cd_17 ct_17), sl_17⟩)
    (c_17 : PySem.W.codeIn K cd_17 "Many.twin" = true)
    (k_17 : PySem.W.keepIn K (.ref f_Many_twin) = true)
    (a_23 : PySem.W.nsIn K mainGlobals "_law_pool" = some (some (.ref f_law_pool)))
    (l_23 : K.lookup f_law_pool = some ⟨oc_23, od_23, .func (PySem.W.fnOf "_law_pool" "_law_pool" (defArgs s_law_pool) (defBody s_law_pool) (defScope s_law_pool) .none kV_23 dc_23 pm_23 an_23 cd_23 ct_23), sl_23⟩)
    (c_23 : PySem.W.codeIn K cd_23 "_law_pool" = true)
    (k_23 : PySem.W.keepIn K (.ref f_law_pool) = true)
    (a_21 : PySem.W.nsIn K mainGlobals "_law_take" = some (some (.ref f_law_take)))
    (l_21 : K.lookup f_law_take = some ⟨oc_21, od_21, .func (PySem.W.fnOf "_law_take" "_law_take" (defArgs s_law_take) (defBody s_law_take) (defScope s_law_take) .none kV_21 dc_21 pm_21 an_21 cd_21 ct_21), sl_21⟩)
    (c_21 : PySem.W.codeIn K cd_21 "_law_take" = true)
    (k_21 : PySem.W.keepIn K (.ref f_law_take) = true)
    (a_19 : PySem.W.nsIn K mainGlobals "_law_base" = some (some (.ref f_law_base)))
    (l_19 : K.lookup f_law_base = some ⟨oc_19, od_19, .func (PySem.W.fnOf "_law_base" "_law_base" (defArgs s_law_base) (defBody s_law_base) (defScope s_law_base) .none kV_19 dc_19 pm_19 an_19 cd_19 ct_19), sl_19⟩)
    (c_19 : PySem.W.codeIn K cd_19 "_law_base" = true)
    (k_19 : PySem.W.keepIn K (.ref f_law_base) = true)
    (a_24 : PySem.W.nsIn K mainGlobals "_law_name" = some (some (.ref f_law_name)))
    (l_24 : K.lookup f_law_name = some ⟨oc_24, od_24, .func (PySem.W.fnOf "_law_name" "_law_name" (defArgs s_law_name) (defBody s_law_name) (defScope s_law_name) .none kV_24 dc_24 pm_24 an_24 cd_24 ct_24), sl_24⟩)
    (c_24 : PySem.W.codeIn K cd_24 "_law_name" = true)
    (k_24 : PySem.W.keepIn K (.ref f_law_name) = true)
    (a_26 : PySem.W.nsIn K mainGlobals "_law_some" = some (some (.ref f_law_some)))
    (l_26 : K.lookup f_law_some = some ⟨oc_26, od_26, .func (PySem.W.fnOf "_law_some" "_law_some" (defArgs s_law_some) (defBody s_law_some) (defScope s_law_some) .none kV_26 dc_26 pm_26 an_26 cd_26 ct_26), sl_26⟩)
    (c_26 : PySem.W.codeIn K cd_26 "_law_some" = true)
    (k_26 : PySem.W.keepIn K (.ref f_law_some) = true)
    (a_20 : PySem.W.nsIn K mainGlobals "_law_told" = some (some (.ref f_law_told)))
    (l_20 : K.lookup f_law_told = some ⟨oc_20, od_20, .func (PySem.W.fnOf "_law_told" "_law_told" (defArgs s_law_told) (defBody s_law_told) (defScope s_law_told) .none kV_20 dc_20 pm_20 an_20 cd_20 ct_20), sl_20⟩)
    (c_20 : PySem.W.codeIn K cd_20 "_law_told" = true)
    (k_20 : PySem.W.keepIn K (.ref f_law_told) = true)
    (a_12 : PySem.W.nsIn K mainGlobals "_law_filled" = some (some (.ref f_law_filled)))
    (l_12 : K.lookup f_law_filled = some ⟨oc_12, od_12, .func (PySem.W.fnOf "_law_filled" "_law_filled" (defArgs s_law_filled) (defBody s_law_filled) (defScope s_law_filled) .none kV_12 dc_12 pm_12 an_12 cd_12 ct_12), sl_12⟩)
    (c_12 : PySem.W.codeIn K cd_12 "_law_filled" = true)
    (k_12 : PySem.W.keepIn K (.ref f_law_filled) = true)
    (a_18 : PySem.W.nsIn K mainGlobals "_law_apart" = some (some (.ref f_law_apart)))
    (l_18 : K.lookup f_law_apart = some ⟨oc_18, od_18, .func (PySem.W.fnOf "_law_apart" "_law_apart" (defArgs s_law_apart) (defBody s_law_apart) (defScope s_law_apart) .none kV_18 dc_18 pm_18 an_18 cd_18 ct_18), sl_18⟩)
    (c_18 : PySem.W.codeIn K cd_18 "_law_apart" = true)
    (k_18 : PySem.W.keepIn K (.ref f_law_apart) = true)
    (a_law : PySem.W.nsIn K mainGlobals "law" = some (some (.ref f_law)))
    (l_27 : K.lookup f_law = some ⟨oc_27, od_27, .func (PySem.W.fnOf "law" "law" (defArgs s_law) (defBody s_law) (defScope s_law) .none kV_27 dc_27 pm_27 an_27 cd_27 ct_27), sl_27⟩)
    (c_27 : PySem.W.codeIn K cd_27 "law" = true)
    (k_27 : PySem.W.keepIn K (.ref f_law) = true)
    (pg_Steps : PySem.W.plainGet K C_Steps Str.empty = true)
    (hd_Steps : PySem.W.hasDictIn K C_Steps = true)
    (po_Steps : PySem.W.plainOver K C_Steps = true)
    (sa_Steps : PySem.W.findIn K (.ref C_Steps) "__setattr__" = some (some (.builtin "object.__setattr__")))
    (mk_Steps : PySem.W.makesIn K C_Steps = true)
    (kc_Steps : PySem.W.keepIn K (.ref C_Steps) = true)
    (ha_Steps : PySem.W.findIn K (.ref C_Steps) "__class__" = some (some (.builtin "object.__class__")))
    (hm_Steps : PySem.W.mroIn K C_Steps (.type "object") = some true)
    (sf_Steps : PySem.W.selfFirst K C_Steps = true)
    (nf_Steps : PySem.W.notFirst K C_Steps (.ref C_Steps) = true)
    (nfl_Steps : PySem.W.notFirst K C_Steps (.type "list") = true)
    (ic_Steps : PySem.W.isClsIn K C_Steps = true)
    (ty_Steps : PySem.W.typeIn K (.ref C_Steps) = some (.type "type"))
    (sl_Steps : PySem.W.subIn K (.type "list") (.ref C_Steps) = some false)
    (sk_Single_Steps : PySem.W.subIn K (.ref C_Single) (.ref C_Steps) = some true)
    (ne_Single_Steps : (Value.ref C_Single == Value.ref C_Steps) = false)
    (sk_Many_Steps : PySem.W.subIn K (.ref C_Many) (.ref C_Steps) = some true)
    (ne_Many_Steps : (Value.ref C_Many == Value.ref C_Steps) = false)
    (na_Steps_order : PySem.W.findIn K (.ref C_Steps) "order" = some none)
    (na_Steps_leads : PySem.W.findIn K (.ref C_Steps) "leads" = some none)
    (pg_Doors : PySem.W.plainGet K C_Doors Str.empty = true)
    (hd_Doors : PySem.W.hasDictIn K C_Doors = true)
    (po_Doors : PySem.W.plainOver K C_Doors = true)
    (sa_Doors : PySem.W.findIn K (.ref C_Doors) "__setattr__" = some (some (.builtin "object.__setattr__")))
    (mk_Doors : PySem.W.makesIn K C_Doors = true)
    (kc_Doors : PySem.W.keepIn K (.ref C_Doors) = true)
    (ha_Doors : PySem.W.findIn K (.ref C_Doors) "__class__" = some (some (.builtin "object.__class__")))
    (hm_Doors : PySem.W.mroIn K C_Doors (.type "object") = some true)
    (sf_Doors : PySem.W.selfFirst K C_Doors = true)
    (nf_Doors : PySem.W.notFirst K C_Doors (.ref C_Doors) = true)
    (nfl_Doors : PySem.W.notFirst K C_Doors (.type "list") = true)
    (ic_Doors : PySem.W.isClsIn K C_Doors = true)
    (ty_Doors : PySem.W.typeIn K (.ref C_Doors) = some (.type "type"))
    (sl_Doors : PySem.W.subIn K (.type "list") (.ref C_Doors) = some false)
    (sk_Single_Doors : PySem.W.subIn K (.ref C_Single) (.ref C_Doors) = some true)
    (ne_Single_Doors : (Value.ref C_Single == Value.ref C_Doors) = false)
    (sk_Many_Doors : PySem.W.subIn K (.ref C_Many) (.ref C_Doors) = some true)
    (ne_Many_Doors : (Value.ref C_Many == Value.ref C_Doors) = false)
    (na_Doors_rows : PySem.W.findIn K (.ref C_Doors) "rows" = some none)
    (na_Doors_doors : PySem.W.findIn K (.ref C_Doors) "doors" = some none)
    (nq_Doors : PySem.W.noSeq K C_Doors = true)
    (pg_Part : PySem.W.plainGet K C_Part Str.empty = true)
    (hd_Part : PySem.W.hasDictIn K C_Part = true)
    (po_Part : PySem.W.plainOver K C_Part = true)
    (h_Part_standings : PySem.W.findIn K (.ref C_Part) "standings" = some (some (.ref f_Steps_standings)))
    (h_Part_allow : PySem.W.findIn K (.ref C_Part) "allow" = some (some (.ref f_Steps_allow)))
    (h_Part_steps_from : PySem.W.findIn K (.ref C_Part) "steps_from" = some (some (.ref f_Steps_steps_from)))
    (h_Part_iter : PySem.W.findIn K (.ref C_Part) "__iter__" = some (some (.ref f_Doors_iter)))
    (h_Part_getitem : PySem.W.findIn K (.ref C_Part) "__getitem__" = some (some (.ref f_Doors_getitem)))
    (h_Part_setitem : PySem.W.findIn K (.ref C_Part) "__setitem__" = some (some (.ref f_Doors_setitem)))
    (sa_Part : PySem.W.findIn K (.ref C_Part) "__setattr__" = some (some (.builtin "object.__setattr__")))
    (mk_Part : PySem.W.makesIn K C_Part = true)
    (kc_Part : PySem.W.keepIn K (.ref C_Part) = true)
    (ha_Part : PySem.W.findIn K (.ref C_Part) "__class__" = some (some (.builtin "object.__class__")))
    (hm_Part : PySem.W.mroIn K C_Part (.type "object") = some true)
    (sf_Part : PySem.W.selfFirst K C_Part = true)
    (nf_Part : PySem.W.notFirst K C_Part (.ref C_Part) = true)
    (nfl_Part : PySem.W.notFirst K C_Part (.type "list") = true)
    (ic_Part : PySem.W.isClsIn K C_Part = true)
    (ty_Part : PySem.W.typeIn K (.ref C_Part) = some (.type "type"))
    (sl_Part : PySem.W.subIn K (.type "list") (.ref C_Part) = some false)
    (sk_Single_Part : PySem.W.subIn K (.ref C_Single) (.ref C_Part) = some true)
    (ne_Single_Part : (Value.ref C_Single == Value.ref C_Part) = false)
    (sk_Many_Part : PySem.W.subIn K (.ref C_Many) (.ref C_Part) = some true)
    (ne_Many_Part : (Value.ref C_Many == Value.ref C_Part) = false)
    (na_Part_rows : PySem.W.findIn K (.ref C_Part) "rows" = some none)
    (na_Part_doors : PySem.W.findIn K (.ref C_Part) "doors" = some none)
    (na_Part_order : PySem.W.findIn K (.ref C_Part) "order" = some none)
    (na_Part_leads : PySem.W.findIn K (.ref C_Part) "leads" = some none)
    (na_Part_name : PySem.W.findIn K (.ref C_Part) "name" = some none)
    (nq_Part : PySem.W.noSeq K C_Part = true)
    (pg_Single : PySem.W.plainGet K C_Single Str.empty = true)
    (hd_Single : PySem.W.hasDictIn K C_Single = true)
    (po_Single : PySem.W.plainOver K C_Single = true)
    (h_Single_init : PySem.W.findIn K (.ref C_Single) "__init__" = some (some (.ref f_Part_init)))
    (h_Single_filled : PySem.W.findIn K (.ref C_Single) "filled" = some (some (.ref f_Part_filled)))
    (h_Single_standings : PySem.W.findIn K (.ref C_Single) "standings" = some (some (.ref f_Steps_standings)))
    (h_Single_allow : PySem.W.findIn K (.ref C_Single) "allow" = some (some (.ref f_Steps_allow)))
    (h_Single_steps_from : PySem.W.findIn K (.ref C_Single) "steps_from" = some (some (.ref f_Steps_steps_from)))
    (h_Single_iter : PySem.W.findIn K (.ref C_Single) "__iter__" = some (some (.ref f_Doors_iter)))
    (h_Single_getitem : PySem.W.findIn K (.ref C_Single) "__getitem__" = some (some (.ref f_Doors_getitem)))
    (h_Single_setitem : PySem.W.findIn K (.ref C_Single) "__setitem__" = some (some (.ref f_Doors_setitem)))
    (sa_Single : PySem.W.findIn K (.ref C_Single) "__setattr__" = some (some (.builtin "object.__setattr__")))
    (mk_Single : PySem.W.makesIn K C_Single = true)
    (kc_Single : PySem.W.keepIn K (.ref C_Single) = true)
    (ha_Single : PySem.W.findIn K (.ref C_Single) "__class__" = some (some (.builtin "object.__class__")))
    (hm_Single : PySem.W.mroIn K C_Single (.type "object") = some true)
    (sf_Single : PySem.W.selfFirst K C_Single = true)
    (nf_Single : PySem.W.notFirst K C_Single (.ref C_Single) = true)
    (nfl_Single : PySem.W.notFirst K C_Single (.type "list") = true)
    (ic_Single : PySem.W.isClsIn K C_Single = true)
    (ty_Single : PySem.W.typeIn K (.ref C_Single) = some (.type "type"))
    (sl_Single : PySem.W.subIn K (.type "list") (.ref C_Single) = some false)
    (sk_Many_Single : PySem.W.subIn K (.ref C_Many) (.ref C_Single) = some false)
    (ne_Many_Single : (Value.ref C_Many == Value.ref C_Single) = false)
    (na_Single_rows : PySem.W.findIn K (.ref C_Single) "rows" = some none)
    (na_Single_doors : PySem.W.findIn K (.ref C_Single) "doors" = some none)
    (na_Single_order : PySem.W.findIn K (.ref C_Single) "order" = some none)
    (na_Single_leads : PySem.W.findIn K (.ref C_Single) "leads" = some none)
    (na_Single_name : PySem.W.findIn K (.ref C_Single) "name" = some none)
    (nq_Single : PySem.W.noSeq K C_Single = true)
    (pg_Many : PySem.W.plainGet K C_Many Str.empty = true)
    (hd_Many : PySem.W.hasDictIn K C_Many = true)
    (po_Many : PySem.W.plainOver K C_Many = true)
    (h_Many_init : PySem.W.findIn K (.ref C_Many) "__init__" = some (some (.ref f_Part_init)))
    (h_Many_filled : PySem.W.findIn K (.ref C_Many) "filled" = some (some (.ref f_Part_filled)))
    (h_Many_standings : PySem.W.findIn K (.ref C_Many) "standings" = some (some (.ref f_Steps_standings)))
    (h_Many_allow : PySem.W.findIn K (.ref C_Many) "allow" = some (some (.ref f_Steps_allow)))
    (h_Many_steps_from : PySem.W.findIn K (.ref C_Many) "steps_from" = some (some (.ref f_Steps_steps_from)))
    (h_Many_iter : PySem.W.findIn K (.ref C_Many) "__iter__" = some (some (.ref f_Doors_iter)))
    (h_Many_getitem : PySem.W.findIn K (.ref C_Many) "__getitem__" = some (some (.ref f_Doors_getitem)))
    (h_Many_setitem : PySem.W.findIn K (.ref C_Many) "__setitem__" = some (some (.ref f_Doors_setitem)))
    (sa_Many : PySem.W.findIn K (.ref C_Many) "__setattr__" = some (some (.builtin "object.__setattr__")))
    (mk_Many : PySem.W.makesIn K C_Many = true)
    (kc_Many : PySem.W.keepIn K (.ref C_Many) = true)
    (ha_Many : PySem.W.findIn K (.ref C_Many) "__class__" = some (some (.builtin "object.__class__")))
    (hm_Many : PySem.W.mroIn K C_Many (.type "object") = some true)
    (sf_Many : PySem.W.selfFirst K C_Many = true)
    (nf_Many : PySem.W.notFirst K C_Many (.ref C_Many) = true)
    (nfl_Many : PySem.W.notFirst K C_Many (.type "list") = true)
    (ic_Many : PySem.W.isClsIn K C_Many = true)
    (ty_Many : PySem.W.typeIn K (.ref C_Many) = some (.type "type"))
    (sl_Many : PySem.W.subIn K (.type "list") (.ref C_Many) = some false)
    (sk_Single_Many : PySem.W.subIn K (.ref C_Single) (.ref C_Many) = some false)
    (ne_Single_Many : (Value.ref C_Single == Value.ref C_Many) = false)
    (na_Many_rows : PySem.W.findIn K (.ref C_Many) "rows" = some none)
    (na_Many_doors : PySem.W.findIn K (.ref C_Many) "doors" = some none)
    (na_Many_order : PySem.W.findIn K (.ref C_Many) "order" = some none)
    (na_Many_leads : PySem.W.findIn K (.ref C_Many) "leads" = some none)
    (na_Many_name : PySem.W.findIn K (.ref C_Many) "name" = some none)
    (nq_Many : PySem.W.noSeq K C_Many = true)
    (of_Steps_init : PySem.W.findCls K (.ref C_Steps) (.type "type") "__init__" = some (.val (.ref f_Steps_init)))
    (cd1_Steps : PySem.W.readsIn K C_Steps (.type "type") = true)
    (cd2x_Steps : PySem.W.specialIn K (.ref C_Steps) "__getattribute__" = some (some (.builtin "type.__getattribute__")))
    (of_Doors_init : PySem.W.findCls K (.ref C_Doors) (.type "type") "__init__" = some (.val (.ref f_Doors_init)))
    (cd1_Doors : PySem.W.readsIn K C_Doors (.type "type") = true)
    (cd2x_Doors : PySem.W.specialIn K (.ref C_Doors) "__getattribute__" = some (some (.builtin "type.__getattribute__")))
    (hn : PySem.W.specialIn K (.builtin "object.__class__") "__get__" = some (some (.builtin "getset_descriptor.__get__")))
    (ht : PySem.W.takesIn K (.builtin "object.__class__") = some true)
    (z_len : PySem.W.nsIn K mainGlobals "len" = some none)
    (z_list : PySem.W.nsIn K mainGlobals "list" = some none)
    (z_tuple : PySem.W.nsIn K mainGlobals "tuple" = some none)
    (z_int : PySem.W.nsIn K mainGlobals "int" = some none)
    (z_range : PySem.W.nsIn K mainGlobals "range" = some none)
    (z_isinstance : PySem.W.nsIn K mainGlobals "isinstance" = some none)
    (z_iter : PySem.W.nsIn K mainGlobals "iter" = some none)
    (z_super : PySem.W.nsIn K mainGlobals "super" = some none)
    (z_ValueError : PySem.W.nsIn K mainGlobals "ValueError" = some none)
   , ∃ fd : FuncData, (∀ (s : Shared) (v : Value), BindsTo s fd ⟨[v], []⟩ [("_law_script", v)]) ∧ ∀ base : Heap, K.In base → base.Ns mainGlobals mg → FnOk l.prog w K mg base CX0 12 fa fd ["_law_script"] (spLaw K)
theorem walk {l : PySem.W.OpenLaw} {q : Program} {loose : List Str} {XP : (Str → Option Value) → Heap → Prop} {YP : World → Heap → Prop} {d : DefRec} {K : Params → PySem.W.Frag} (hn : l.most = some 63) (hdf : d.params.defaults = [])
    (hY : ∀ (w : World) (h : Heap), YP w h → (K w.params).In h)
    (F : ∀ (w : World) (mg : Str → Option Value) (fa : Addr) (h : Heap), (K w.params).In h → h.Ns mainGlobals mg → mg d.name = some (.ref fa) →
      ∃ fd : FuncData, (∀ (s : Shared) (u : Value), BindsTo s fd ⟨[u], []⟩ [("_law_script", u)]) ∧ ∀ base : Heap, (K w.params).In base → base.Ns mainGlobals mg → FnOk l.prog w (K w.params) mg base CX0 12 fa fd ["_law_script"] (spLaw (K w.params))) :
    PySem.W.WalkO q loose XP YP l.row.toRowW d [] (fun f vs => PySem.call f vs) :=
  L2.walk_of (n := 63) (k := 12) (x := "_law_script") (CX := fun _ => CX0) (sp := fun w => spLaw (K w.params)) hn (by decide) hdf ⟨rfl, by decide, by decide⟩ hY F (fun _ _ a ns hl _ hS => ⟨a, ns, rfl, hS, hl, fun _ => rfl⟩) fun _ _ _ _ _ z => z
theorem walkL {l : PySem.W.OpenLaw} {q : Program} {loose : List Str} {XP : (Str → Option Value) → Heap → Prop} {YP : World → Heap → Prop} {d : DefRec} {K : Params → PySem.W.Frag} (hn : l.most = some 63) (hdf : d.params.defaults = [])
    (hY : ∀ (w : World) (h : Heap), YP w h → (K w.params).In h)
    (F : LawOk → ∀ (w : World) (mg : Str → Option Value) (fa : Addr) (h : Heap), (K w.params).In h → h.Ns mainGlobals mg → mg d.name = some (.ref fa) →
      ∃ fd : FuncData, (∀ (s : Shared) (u : Value), BindsTo s fd ⟨[u], []⟩ [("_law_script", u)]) ∧ ∀ base : Heap, (K w.params).In base → base.Ns mainGlobals mg → FnOk l.prog w (K w.params) mg base CX0 12 fa fd ["_law_script"] (spLaw (K w.params))) :
    PySem.W.WalkO q loose XP (fun w h => YP w h ∧ LawOk) l.row.toRowW d [] (fun f vs => PySem.call f vs) := by
  intro w s₀ s₁ mg mb G Y
  exact walk hn hdf hY (F Y.2) w s₀ s₁ mg mb G Y.1
end K08
namespace GH
open PySem PySem.W PyProof.Rows
def rowsOf : List Obj → List Obj → List (List Obj)
  | [], _ => []
  | _ :: f, l => match l with
    | [] => []
    | o :: r => (o :: r).take 32 :: rowsOf f ((o :: r).drop 32)
def nth {α : Type} : List α → Nat → Option α
  | [], _ => none
  | x :: l, i => match i with
    | 0 => some x
    | j + 1 => nth l j
def inRow (i : Nat) : Option (List Obj) → Option Obj
  | none => none
  | some r => nth r i
def alv : Option Obj → Option Obj
  | some ⟨_, _, .freed, _⟩ => none
  | o => o
def lookAt (c : List (List Obj)) (a : Nat) : Option Obj := alv (inRow (Nat.mod a 32) (nth c (Nat.div a 32)))
def lookAll (c : List (List Obj)) : List Nat → List (Option Obj)
  | [] => []
  | a :: r => lookAt c a :: lookAll c r
theorem nth_eq {α : Type} : ∀ (l : List α) (i : Nat), nth l i = l[i]?
  | [], _ => by simp [nth]
  | x :: l, 0 => rfl
  | x :: l, j + 1 => by
    show nth l j = _
    rw [nth_eq l j]
    rfl
theorem rows_at : ∀ (f l : List Obj) (i : Nat), l.length ≤ 32 * f.length → inRow (Nat.mod i 32) (nth (rowsOf f l) (Nat.div i 32)) = l[i]?
  | [], l, i, h => by
    have : l = [] := List.length_eq_zero_iff.mp (by simpa using h)
    subst this
    simp [rowsOf, nth, inRow]
  | _ :: f, [], i, _ => by simp [rowsOf, nth, inRow]
  | _ :: f, o :: r, i, h => by
    show inRow (i % 32) (nth ((o :: r).take 32 :: rowsOf f ((o :: r).drop 32)) (i / 32)) = _
    by_cases hi : i < 32
    · rw [show i / 32 = 0 by omega, show i % 32 = i by omega]
      show nth ((o :: r).take 32) i = _
      rw [nth_eq, List.getElem?_take]
      simp [hi]
    · obtain ⟨j, rfl⟩ : ∃ j, i = j + 32 := ⟨i - 32, by omega⟩
      have e1 : (j + 32) / 32 = j / 32 + 1 := by omega
      have e2 : (j + 32) % 32 = j % 32 := by omega
      rw [e1, e2]
      show inRow (j % 32) (nth (rowsOf f ((o :: r).drop 32)) (j / 32)) = _
      have hl : ((o :: r).drop 32).length ≤ 32 * f.length := by
        rw [List.length_drop]
        rw [List.length_cons (as := f)] at h
        omega
      have := rows_at f ((o :: r).drop 32) j hl
      rw [show inRow (j % 32) (nth (rowsOf f ((o :: r).drop 32)) (j / 32)) = inRow (Nat.mod j 32) (nth (rowsOf f ((o :: r).drop 32)) (Nat.div j 32)) from rfl, this, List.getElem?_drop, Nat.add_comm]
def seen (as : List Nat) (h : Heap) : List (Option Obj) := lookAll (rowsOf h.objs.toList h.objs.toList) as
theorem look_eq (h : Heap) (a : Nat) : lookAt (rowsOf h.objs.toList h.objs.toList) a = h.get? a := by
  unfold lookAt
  rw [rows_at _ _ _ (by omega)]
  unfold Heap.get?
  rw [Array.getElem?_toList]
  rfl
theorem seen_eq (h : Heap) : ∀ as : List Nat, seen as h = as.map h.get?
  | [] => rfl
  | a :: r => by
    show lookAt (rowsOf h.objs.toList h.objs.toList) a :: seen r h = _
    rw [look_eq, seen_eq h r]
    rfl
def hook (K : Params → Frag) (as : List Nat) (e : ∀ P, as = (K P).map (·.1)) : Hook :=
  ⟨List (Option Obj), fun s => seen as s.heap, fun w => (K w.params).map fun p => some p.2, fun w h => (K w.params).In h, fun w s x => Frag.in_of (e _) ((seen_eq s.heap as).symm.trans x), fun _ _ _ x k => Frag.In.keeps x k⟩
theorem kin {K : Params → Frag} {as : List Nat} {e : ∀ P, as = (K P).map (·.1)} {w : World} {h : Heap} (Y : (hook K as e).says w h) : (K w.params).In h := Y
end GH
section
open PySem PySem.W PyProof.Rows
local macro_rules
  | `(tactic| o_head $H) => do
    let h := H.raw
    let h := if h.getKind == ``Lean.Parser.Term.paren then h[1] else h
    if h.getKind != ``Lean.Parser.Term.app then Lean.Macro.throwUnsupported
    if h[0].getId.eraseMacroScopes.getString! != "kHook" then Lean.Macro.throwUnsupported
    let a := h[1].getArgs
    let K : Lean.Term := ⟨a[0]!⟩
    let l : Lean.Term := ⟨a[1]!⟩
    let e : Lean.Term := ⟨a[2]!⟩
    `(tactic| o_head (GH.hook $K $l $e))
local macro_rules
  | `(tactic| refine $f:ident $args*) => do
    if args.size < 12 then Lean.Macro.throwUnsupported
    let y := (args[6]!).raw
    if y.getKind != ``Lean.Parser.Term.namedArgument then Lean.Macro.throwUnsupported
    if y[1].getId.eraseMacroScopes != `YP then Lean.Macro.throwUnsupported
    if y[3].getKind != ``Lean.Parser.Term.app then Lean.Macro.throwUnsupported
    let H : Lean.Term := ⟨y[3][1][0]⟩
    let says ← `(fun w h => PySem.W.Hook.says $H w h ∧ K08.LawOk)
    let of ← `((fun w s e => ⟨PySem.W.Hook.of $H w s e, by assumption⟩))
    let kp ← `((fun w h h' y k => ⟨PySem.W.Hook.keeps $H w h h' y.1 k, y.2⟩))
    let as := ((args.set! 6 ⟨y.setArg 3 says.raw⟩).set! 9 ⟨of.raw⟩).set! 10 ⟨kp.raw⟩
    `(tactic| refine $f:ident $as*)
set_option maxRecDepth 100000 in
set_option maxHeartbeats 0 in
theorem K08.early (hlaw : K08.LawOk) : PySem.Challenge.rw_soundyard_k08_rows_and_twins.Holds := by
  w_on; o_law; k_head; (case hw => w_witness2)
  k_fill
  refine K08.walkL (l := PySem.Challenge.rw_soundyard_k08_rows_and_twins) rfl rfl (fun w h Y => GH.kin Y) ?F
  case F =>
    intro hlaw w mg fa h KX G hmg
    refine' hlaw KX G hmg ?aC_Steps ?aC_Doors ?aC_Part ?aC_Single ?aC_Many ?aC_Repeated ?lC_Repeated ?rv_Repeated ?sa_Repeated ?eb_Repeated ?ty_Repeated ?kc_Repeated ?su_Repeated ?ve_Repeated ?mr_Repeated ?ga_Repeated ?gg_Repeated ?hd_Repeated ?na_Repeated_name ?aC_Unknown ?lC_Unknown ?rv_Unknown ?sa_Unknown ?eb_Unknown ?ty_Unknown ?kc_Unknown ?su_Unknown ?ve_Unknown ?mr_Unknown ?ga_Unknown ?gg_Unknown ?hd_Unknown ?na_Unknown_name ?aC_NoStep ?lC_NoStep ?rv_NoStep ?sa_NoStep ?eb_NoStep ?ty_NoStep ?kc_NoStep ?su_NoStep ?ve_NoStep ?mr_NoStep ?ga_NoStep ?gg_NoStep ?hd_NoStep ?na_NoStep_before ?na_NoStep_after ?stat ?a_5 ?ti_Repeated_init ?l_5 ?c_5 ?cd1_Repeated_init ?cd2_Repeated_init ?cd3_Repeated_init ?cl1_Repeated_init ?a_6 ?ti_Unknown_init ?l_6 ?c_6 ?cd1_Unknown_init ?cd2_Unknown_init ?cd3_Unknown_init ?cl1_Unknown_init ?a_8 ?ti_NoStep_init ?l_8 ?c_8 ?cd1_NoStep_init ?cd2_NoStep_init ?cd3_NoStep_init ?cl1_NoStep_init ?a_13 ?ti_Single_row ?l_13 ?c_13 ?cd1_Single_row ?cd2_Single_row ?cd3_Single_row ?cl1_Single_row ?a_25 ?ti_Many_row ?l_25 ?c_25 ?cd1_Many_row ?cd2_Many_row ?cd3_Many_row ?cl1_Many_row ?su_Single_row ?mr_Single_row ?fi_Single_row ?k_13 ?su_Many_row ?mr_Many_row ?fi_Many_row ?k_25 ?topS ?a_14 ?i_14 ?l_14 ?c_14 ?k_14 ?a_1 ?i_1 ?l_1 ?c_1 ?k_1 ?a_9 ?i_9 ?l_9 ?c_9 ?k_9 ?a_0 ?i_0 ?l_0 ?c_0 ?k_0 ?a_11 ?i_11 ?l_11 ?c_11 ?k_11 ?a_15 ?i_15 ?l_15 ?c_15 ?k_15 ?a_4 ?i_4 ?fi_Doors_getitem ?l_4 ?c_4 ?k_4 ?a_3 ?i_3 ?l_3 ?c_3 ?k_3 ?a_2 ?l_2 ?c_2 ?k_2 ?a_16 ?i_16 ?l_16 ?c_16 ?k_16 ?a_22 ?i_22 ?l_22 ?c_22 ?k_22 ?a_10 ?i_10 ?l_10 ?c_10 ?k_10 ?a_7 ?i_7 ?l_7 ?c_7 ?k_7 ?a_17 ?i_17 ?l_17 ?c_17 ?k_17 ?a_23 ?l_23 ?c_23 ?k_23 ?a_21 ?l_21 ?c_21 ?k_21 ?a_19 ?l_19 ?c_19 ?k_19 ?a_24 ?l_24 ?c_24 ?k_24 ?a_26 ?l_26 ?c_26 ?k_26 ?a_20 ?l_20 ?c_20 ?k_20 ?a_12 ?l_12 ?c_12 ?k_12 ?a_18 ?l_18 ?c_18 ?k_18 ?a_law ?l_27 ?c_27 ?k_27 ?pg_Steps ?hd_Steps ?po_Steps ?sa_Steps ?mk_Steps ?kc_Steps ?ha_Steps ?hm_Steps ?sf_Steps ?nf_Steps ?nfl_Steps ?ic_Steps ?ty_Steps ?sl_Steps ?sk_Single_Steps ?ne_Single_Steps ?sk_Many_Steps ?ne_Many_Steps ?na_Steps_order ?na_Steps_leads ?pg_Doors ?hd_Doors ?po_Doors ?sa_Doors ?mk_Doors ?kc_Doors ?ha_Doors ?hm_Doors ?sf_Doors ?nf_Doors ?nfl_Doors ?ic_Doors ?ty_Doors ?sl_Doors ?sk_Single_Doors ?ne_Single_Doors ?sk_Many_Doors ?ne_Many_Doors ?na_Doors_rows ?na_Doors_doors ?nq_Doors ?pg_Part ?hd_Part ?po_Part ?h_Part_standings ?h_Part_allow ?h_Part_steps_from ?h_Part_iter ?h_Part_getitem ?h_Part_setitem ?sa_Part ?mk_Part ?kc_Part ?ha_Part ?hm_Part ?sf_Part ?nf_Part ?nfl_Part ?ic_Part ?ty_Part ?sl_Part ?sk_Single_Part ?ne_Single_Part ?sk_Many_Part ?ne_Many_Part ?na_Part_rows ?na_Part_doors ?na_Part_order ?na_Part_leads ?na_Part_name ?nq_Part ?pg_Single ?hd_Single ?po_Single ?h_Single_init ?h_Single_filled ?h_Single_standings ?h_Single_allow ?h_Single_steps_from ?h_Single_iter ?h_Single_getitem ?h_Single_setitem ?sa_Single ?mk_Single ?kc_Single ?ha_Single ?hm_Single ?sf_Single ?nf_Single ?nfl_Single ?ic_Single ?ty_Single ?sl_Single ?sk_Many_Single ?ne_Many_Single ?na_Single_rows ?na_Single_doors ?na_Single_order ?na_Single_leads ?na_Single_name ?nq_Single ?pg_Many ?hd_Many ?po_Many ?h_Many_init ?h_Many_filled ?h_Many_standings ?h_Many_allow ?h_Many_steps_from ?h_Many_iter ?h_Many_getitem ?h_Many_setitem ?sa_Many ?mk_Many ?kc_Many ?ha_Many ?hm_Many ?sf_Many ?nf_Many ?nfl_Many ?ic_Many ?ty_Many ?sl_Many ?sk_Single_Many ?ne_Single_Many ?na_Many_rows ?na_Many_doors ?na_Many_order ?na_Many_leads ?na_Many_name ?nq_Many ?of_Steps_init ?cd1_Steps ?cd2x_Steps ?of_Doors_init ?cd1_Doors ?cd2x_Doors ?hn ?ht ?z_len ?z_list ?z_tuple ?z_int ?z_range ?z_isinstance ?z_iter ?z_super ?z_ValueError
    (case aC_Steps => k_is)
    (case aC_Doors => k_is)
    (case aC_Part => k_is)
    (case aC_Single => k_is)
    (case aC_Many => k_is)
    (case aC_Repeated => k_is)
    (case lC_Repeated => k_is)
    (case rv_Repeated => exact rfl)
    (case sa_Repeated => k_is)
    (case eb_Repeated => k_is)
    (case ty_Repeated => k_is)
    (case kc_Repeated => k_is)
    (case su_Repeated => ks_is)
    (case ve_Repeated => k_is)
    (case mr_Repeated => k_is)
    (case ga_Repeated => k_is)
    (case gg_Repeated => k_is)
    (case hd_Repeated => k_is)
    (case na_Repeated_name => k_is)
    (case aC_Unknown => k_is)
    (case lC_Unknown => k_is)
    (case rv_Unknown => exact rfl)
    (case sa_Unknown => k_is)
    (case eb_Unknown => k_is)
    (case ty_Unknown => k_is)
    (case kc_Unknown => k_is)
    (case su_Unknown => ks_is)
    (case ve_Unknown => k_is)
    (case mr_Unknown => k_is)
    (case ga_Unknown => k_is)
    (case gg_Unknown => k_is)
    (case hd_Unknown => k_is)
    (case na_Unknown_name => k_is)
    (case aC_NoStep => k_is)
    (case lC_NoStep => k_is)
    (case rv_NoStep => exact rfl)
    (case sa_NoStep => k_is)
    (case eb_NoStep => k_is)
    (case ty_NoStep => k_is)
    (case kc_NoStep => k_is)
    (case su_NoStep => ks_is)
    (case ve_NoStep => k_is)
    (case mr_NoStep => k_is)
    (case ga_NoStep => k_is)
    (case gg_NoStep => k_is)
    (case hd_NoStep => k_is)
    (case na_NoStep_before => k_is)
    (case na_NoStep_after => k_is)
    (case stat => k_is)
    (case a_5 => k_is)
    (case ti_Repeated_init => k_is)
    (case l_5 => k_is)
    (case c_5 => k_is)
    (case cd1_Repeated_init => k_is)
    (case cd2_Repeated_init => exact rfl)
    (case cd3_Repeated_init => decide +kernel)
    (case cl1_Repeated_init => k_is)
    (case a_6 => k_is)
    (case ti_Unknown_init => k_is)
    (case l_6 => k_is)
    (case c_6 => k_is)
    (case cd1_Unknown_init => k_is)
    (case cd2_Unknown_init => exact rfl)
    (case cd3_Unknown_init => decide +kernel)
    (case cl1_Unknown_init => k_is)
    (case a_8 => k_is)
    (case ti_NoStep_init => k_is)
    (case l_8 => k_is)
    (case c_8 => k_is)
    (case cd1_NoStep_init => k_is)
    (case cd2_NoStep_init => exact rfl)
    (case cd3_NoStep_init => decide +kernel)
    (case cl1_NoStep_init => k_is)
    (case a_13 => k_is)
    (case ti_Single_row => k_is)
    (case l_13 => k_is)
    (case c_13 => k_is)
    (case cd1_Single_row => k_is)
    (case cd2_Single_row => exact rfl)
    (case cd3_Single_row => decide +kernel)
    (case cl1_Single_row => k_is)
    (case a_25 => k_is)
    (case ti_Many_row => k_is)
    (case l_25 => k_is)
    (case c_25 => k_is)
    (case cd1_Many_row => k_is)
    (case cd2_Many_row => exact rfl)
    (case cd3_Many_row => decide +kernel)
    (case cl1_Many_row => k_is)
    (case su_Single_row => ks_is)
    (case mr_Single_row => k_is)
    (case fi_Single_row => k_is)
    (case k_13 => k_is)
    (case su_Many_row => ks_is)
    (case mr_Many_row => k_is)
    (case fi_Many_row => k_is)
    (case k_25 => k_is)
    (case topS => exact rfl)
    (case a_14 => k_is)
    (case i_14 => k_is)
    (case l_14 => k_is)
    (case c_14 => k_is)
    (case k_14 => k_is)
    (case a_1 => k_is)
    (case i_1 => k_is)
    (case l_1 => k_is)
    (case c_1 => k_is)
    (case k_1 => k_is)
    (case a_9 => k_is)
    (case i_9 => k_is)
    (case l_9 => k_is)
    (case c_9 => k_is)
    (case k_9 => k_is)
    (case a_0 => k_is)
    (case i_0 => k_is)
    (case l_0 => k_is)
    (case c_0 => k_is)
    (case k_0 => k_is)
    (case a_11 => k_is)
    (case i_11 => k_is)
    (case l_11 => k_is)
    (case c_11 => k_is)
    (case k_11 => k_is)
    (case a_15 => k_is)
    (case i_15 => k_is)
    (case l_15 => k_is)
    (case c_15 => k_is)
    (case k_15 => k_is)
    (case a_4 => k_is)
    (case i_4 => k_is)
    (case fi_Doors_getitem => k_is)
    (case l_4 => k_is)
    (case c_4 => k_is)
    (case k_4 => k_is)
    (case a_3 => k_is)
    (case i_3 => k_is)
    (case l_3 => k_is)
    (case c_3 => k_is)
    (case k_3 => k_is)
    (case a_2 => k_is)
    (case l_2 => k_is)
    (case c_2 => k_is)
    (case k_2 => k_is)
    (case a_16 => k_is)
    (case i_16 => k_is)
    (case l_16 => k_is)
    (case c_16 => k_is)
    (case k_16 => k_is)
    (case a_22 => k_is)
    (case i_22 => k_is)
    (case l_22 => k_is)
    (case c_22 => k_is)
    (case k_22 => k_is)
    (case a_10 => k_is)
    (case i_10 => k_is)
    (case l_10 => k_is)
    (case c_10 => k_is)
    (case k_10 => k_is)
    (case a_7 => k_is)
    (case i_7 => k_is)
    (case l_7 => k_is)
    (case c_7 => k_is)
    (case k_7 => k_is)
    (case a_17 => k_is)
    (case i_17 => k_is)
    (case l_17 => k_is)
    (case c_17 => k_is)
    (case k_17 => k_is)
    (case a_23 => k_is)
    (case l_23 => k_is)
    (case c_23 => k_is)
    (case k_23 => k_is)
    (case a_21 => k_is)
    (case l_21 => k_is)
    (case c_21 => k_is)
    (case k_21 => k_is)
    (case a_19 => k_is)
    (case l_19 => k_is)
    (case c_19 => k_is)
    (case k_19 => k_is)
    (case a_24 => k_is)
    (case l_24 => k_is)
    (case c_24 => k_is)
    (case k_24 => k_is)
    (case a_26 => k_is)
    (case l_26 => k_is)
    (case c_26 => k_is)
    (case k_26 => k_is)
    (case a_20 => k_is)
    (case l_20 => k_is)
    (case c_20 => k_is)
    (case k_20 => k_is)
    (case a_12 => k_is)
    (case l_12 => k_is)
    (case c_12 => k_is)
    (case k_12 => k_is)
    (case a_18 => k_is)
    (case l_18 => k_is)
    (case c_18 => k_is)
    (case k_18 => k_is)
    (case a_law => k_is)
    (case l_27 => k_is)
    (case c_27 => k_is)
    (case k_27 => k_is)
    (case pg_Steps => k_is)
    (case hd_Steps => k_is)
    (case po_Steps => k_is)
    (case sa_Steps => k_is)
    (case mk_Steps => k_is)
    (case kc_Steps => k_is)
    (case ha_Steps => k_is)
    (case hm_Steps => k_is)
    (case sf_Steps => k_is)
    (case nf_Steps => k_is)
    (case nfl_Steps => k_is)
    (case ic_Steps => k_is)
    (case ty_Steps => k_is)
    (case sl_Steps => k_is)
    (case sk_Single_Steps => k_is)
    (case ne_Single_Steps => first | exact rfl | decide)
    (case sk_Many_Steps => k_is)
    (case ne_Many_Steps => first | exact rfl | decide)
    (case na_Steps_order => k_is)
    (case na_Steps_leads => k_is)
    (case pg_Doors => k_is)
    (case hd_Doors => k_is)
    (case po_Doors => k_is)
    (case sa_Doors => k_is)
    (case mk_Doors => k_is)
    (case kc_Doors => k_is)
    (case ha_Doors => k_is)
    (case hm_Doors => k_is)
    (case sf_Doors => k_is)
    (case nf_Doors => k_is)
    (case nfl_Doors => k_is)
    (case ic_Doors => k_is)
    (case ty_Doors => k_is)
    (case sl_Doors => k_is)
    (case sk_Single_Doors => k_is)
    (case ne_Single_Doors => first | exact rfl | decide)
    (case sk_Many_Doors => k_is)
    (case ne_Many_Doors => first | exact rfl | decide)
    (case na_Doors_rows => k_is)
    (case na_Doors_doors => k_is)
    (case nq_Doors => k_is)
    (case pg_Part => k_is)
    (case hd_Part => k_is)
    (case po_Part => k_is)
    (case h_Part_standings => k_is)
    (case h_Part_allow => k_is)
    (case h_Part_steps_from => k_is)
    (case h_Part_iter => k_is)
    (case h_Part_getitem => k_is)
    (case h_Part_setitem => k_is)
    (case sa_Part => k_is)
    (case mk_Part => k_is)
    (case kc_Part => k_is)
    (case ha_Part => k_is)
    (case hm_Part => k_is)
    (case sf_Part => k_is)
    (case nf_Part => k_is)
    (case nfl_Part => k_is)
    (case ic_Part => k_is)
    (case ty_Part => k_is)
    (case sl_Part => k_is)
    (case sk_Single_Part => k_is)
    (case ne_Single_Part => first | exact rfl | decide)
    (case sk_Many_Part => k_is)
    (case ne_Many_Part => first | exact rfl | decide)
    (case na_Part_rows => k_is)
    (case na_Part_doors => k_is)
    (case na_Part_order => k_is)
    (case na_Part_leads => k_is)
    (case na_Part_name => k_is)
    (case nq_Part => k_is)
    (case pg_Single => k_is)
    (case hd_Single => k_is)
    (case po_Single => k_is)
    (case h_Single_init => k_is)
    (case h_Single_filled => k_is)
    (case h_Single_standings => k_is)
    (case h_Single_allow => k_is)
    (case h_Single_steps_from => k_is)
    (case h_Single_iter => k_is)
    (case h_Single_getitem => k_is)
    (case h_Single_setitem => k_is)
    (case sa_Single => k_is)
    (case mk_Single => k_is)
    (case kc_Single => k_is)
    (case ha_Single => k_is)
    (case hm_Single => k_is)
    (case sf_Single => k_is)
    (case nf_Single => k_is)
    (case nfl_Single => k_is)
    (case ic_Single => k_is)
    (case ty_Single => k_is)
    (case sl_Single => k_is)
    (case sk_Many_Single => k_is)
    (case ne_Many_Single => first | exact rfl | decide)
    (case na_Single_rows => k_is)
    (case na_Single_doors => k_is)
    (case na_Single_order => k_is)
    (case na_Single_leads => k_is)
    (case na_Single_name => k_is)
    (case nq_Single => k_is)
    (case pg_Many => k_is)
    (case hd_Many => k_is)
    (case po_Many => k_is)
    (case h_Many_init => k_is)
    (case h_Many_filled => k_is)
    (case h_Many_standings => k_is)
    (case h_Many_allow => k_is)
    (case h_Many_steps_from => k_is)
    (case h_Many_iter => k_is)
    (case h_Many_getitem => k_is)
    (case h_Many_setitem => k_is)
    (case sa_Many => k_is)
    (case mk_Many => k_is)
    (case kc_Many => k_is)
    (case ha_Many => k_is)
    (case hm_Many => k_is)
    (case sf_Many => k_is)
    (case nf_Many => k_is)
    (case nfl_Many => k_is)
    (case ic_Many => k_is)
    (case ty_Many => k_is)
    (case sl_Many => k_is)
    (case sk_Single_Many => k_is)
    (case ne_Single_Many => first | exact rfl | decide)
    (case na_Many_rows => k_is)
    (case na_Many_doors => k_is)
    (case na_Many_order => k_is)
    (case na_Many_leads => k_is)
    (case na_Many_name => k_is)
    (case nq_Many => k_is)
    (case of_Steps_init => k_is)
    (case cd1_Steps => k_is)
    (case cd2x_Steps => k_is)
    (case of_Doors_init => k_is)
    (case cd1_Doors => k_is)
    (case cd2x_Doors => k_is)
    (case hn => k_is)
    (case ht => k_is)
    (case z_len => k_is)
    (case z_list => k_is)
    (case z_tuple => k_is)
    (case z_int => k_is)
    (case z_range => k_is)
    (case z_isinstance => k_is)
    (case z_iter => k_is)
    (case z_super => k_is)
    (case z_ValueError => k_is)
end
namespace GL
open PySem L2 PySem.Spec PyProof.Rows
inductive D where
  | non | bl (b : Bool) | int (i : Int) | str (x : Str) | lst (l : List D) | tup (l : List D) | obj (c : Nat) (l : List D) | ref (a : Addr) | scr (ns : List Int) | ty (n : String)
  | dK (ks : List Key) (l : List D) | dT (ks : List (List Key)) (l : List D) | exc (c : Nat) (l : List D) | cau (a dd : Addr) (c : Nat) (l : List D) | lsr (as : List Addr) (l : List D) | idn (a : Addr) (d : D)
instance : Inhabited D := ⟨.non⟩
structure Sg0 where
  K : PySem.W.Frag
  cls : Nat → Addr
  nms : Nat → List Str
def SqU (K : PySem.W.Frag) (H : Hp) (a : Addr) (xs : List V) : Prop := SqT K H a xs ∧ (xs = [] ∨ H a = some (.tup xs))
theorem SqU.of {K : PySem.W.Frag} {H : Hp} {a : Addr} {xs : List V} (h : H a = some (.tup xs)) : SqU K H a xs := ⟨.inl (.inl h), .inr h⟩
instance {K : PySem.W.Frag} {H : Hp} {a : Addr} {xs : List V} : Coe (SqU K H a xs) (SqT K H a xs) := ⟨And.left⟩
mutual
inductive Rp (S : Sg0) (H : Hp) : V → D → Prop
  | non : Rp S H .non .non
  | bl (b : Bool) : Rp S H (.bl b) (.bl b)
  | int (i : Int) : Rp S H (.int i) (.int i)
  | str (x : Str) : Rp S H (.str x) (.str x)
  | lst {a : Addr} {xs : List V} {ds : List D} : H a = some (.lst xs) → RpA S H xs ds → Rp S H (.ref a) (.lst ds)
  | tup {a : Addr} {xs : List V} {ds : List D} : SqU S.K H a xs → RpA S H xs ds → Rp S H (.ref a) (.tup ds)
  | obj {a dx : Addr} {c : Nat} {vs : List V} {ds : List D} : H a = some (.ins (S.cls c) dx ((S.nms c).zip vs)) → vs.length = (S.nms c).length → RpA S H vs ds → Rp S H (.ref a) (.obj c ds)
  | ref (a : Addr) : Rp S H (.ref a) (.ref a)
  | ty (n : String) : Rp S H (.ty n) (.ty n)
  | scr {a : Addr} {ns : List Int} : SqL S.K H a (ns.map V.int) → Rp S H (.ref a) (.scr ns)
  | dK {a : Addr} {o : Obj} {ks : List Key} {vs : List V} {ds : List D} : H a = some (.frz o (.dK (ks.zip vs))) → vs.length = ks.length → RpA S H vs ds → Rp S H (.ref a) (.dK ks ds)
  | dT {a : Addr} {o : Obj} {ks : List (List Key)} {vs : List V} {ds : List D} : H a = some (.frz o (.dT (ks.zip vs))) → vs.length = ks.length → RpA S H vs ds → Rp S H (.ref a) (.dT ks ds)
  | exc {a d : Addr} {c : Nat} {vs : List V} {ds : List D} : H a = some (exo a (S.cls c) (some d)) → H d = some (exd d ((S.nms c).zip vs)) → vs.length = (S.nms c).length → RpA S H vs ds → Rp S H (.ref a) (.exc c ds)
  | cau {a dd : Addr} {c : Nat} {vs : List V} {ds : List D} : H dd = some (.xd ((S.nms c).zip vs)) → vs.length = (S.nms c).length → RpA S H vs ds → Rp S H (.ref a) (.cau a dd c ds)
  | lsr {a : Addr} {as : List Addr} {ds : List D} : H a = some (.lst (as.map V.ref)) → RpA S H (as.map V.ref) ds → Rp S H (.ref a) (.lsr as ds)
  | idn {a : Addr} {d : D} : Rp S H (.ref a) d → Rp S H (.ref a) (.idn a d)
inductive RpA (S : Sg0) (H : Hp) : List V → List D → Prop
  | nil : RpA S H [] []
  | cons {v : V} {vs : List V} {d : D} {ds : List D} : Rp S H v d → RpA S H vs ds → RpA S H (v :: vs) (d :: ds)
end
def Ex (H H' : Hp) : Prop := ∀ a o, H a = some o → H' a = some o
theorem Ex.refl (H : Hp) : Ex H H := fun _ _ h => h
theorem Ex.trans {H H1 H2 : Hp} (a : Ex H H1) (b : Ex H1 H2) : Ex H H2 := fun x o h => b x o (a x o h)
theorem Ex.rd {H H' : Hp} {a : Addr} {u : HO} (e : Ex H H') (h : Rd H a u) : Rd H' a u := by
  rcases h with h | ⟨o, h⟩
  · exact Or.inl (e a _ h)
  · exact Or.inr ⟨o, e a _ h⟩
theorem Ex.l {K : PySem.W.Frag} {H H' : Hp} {a : Addr} {xs : List V} (e : Ex H H') (h : SqL K H a xs) : SqL K H' a xs := by
  rcases h with h | h
  · exact Or.inl (e.rd h)
  · exact Or.inr h
theorem Ex.t {K : PySem.W.Frag} {H H' : Hp} {a : Addr} {xs : List V} (e : Ex H H') (h : SqT K H a xs) : SqT K H' a xs := by
  rcases h with h | h
  · exact Or.inl (e.rd h)
  · exact Or.inr h
section
variable {S : Sg0} {H H' : Hp}
mutual
theorem Rp.ext (e : Ex H H') : ∀ {v : V} {d : D}, Rp S H v d → Rp S H' v d
  | _, _, .non => .non
  | _, _, .bl b => .bl b
  | _, _, .int i => .int i
  | _, _, .str x => .str x
  | _, _, .lst h hs => .lst (e _ _ h) (RpA.ext e hs)
  | _, _, .tup h hs => .tup ⟨e.t h.1, h.2.imp id (e _ _)⟩ (RpA.ext e hs)
  | _, _, .obj h hl hs => .obj (e _ _ h) hl (RpA.ext e hs)
  | _, _, .ref a => .ref a
  | _, _, .ty n => .ty n
  | _, _, .scr h => .scr (e.l h)
  | _, _, .dK h hl hs => .dK (e _ _ h) hl (RpA.ext e hs)
  | _, _, .dT h hl hs => .dT (e _ _ h) hl (RpA.ext e hs)
  | _, _, .exc h h2 hl hs => .exc (e _ _ h) (e _ _ h2) hl (RpA.ext e hs)
  | _, _, .cau h hl hs => .cau (e _ _ h) hl (RpA.ext e hs)
  | _, _, .lsr h hs => .lsr (e _ _ h) (RpA.ext e hs)
  | _, _, .idn h => .idn (Rp.ext e h)
theorem RpA.ext (e : Ex H H') : ∀ {vs : List V} {ds : List D}, RpA S H vs ds → RpA S H' vs ds
  | _, _, .nil => .nil
  | _, _, .cons h t => .cons (Rp.ext e h) (RpA.ext e t)
end
theorem RpA.length : ∀ {vs : List V} {ds : List D}, RpA S H vs ds → vs.length = ds.length
  | _, _, .nil => rfl
  | _, _, .cons _ t => by rw [List.length_cons, List.length_cons, RpA.length t]
theorem RpA.get : ∀ {vs : List V} {ds : List D} {i : Nat} {d : D}, RpA S H vs ds → ds[i]? = some d → ∃ v, vs[i]? = some v ∧ Rp S H v d
  | _, _, _, _, .nil, e => by simp at e
  | _, _, 0, _, .cons h _, e => by simp at e; subst e; exact ⟨_, by simp, h⟩
  | _, _, i + 1, _, .cons _ t, e => by
    obtain ⟨v, hv, r⟩ := RpA.get (i := i) t (by simpa using e)
    exact ⟨v, by simpa using hv, r⟩
theorem RpA.append : ∀ {vs ws : List V} {ds es : List D}, RpA S H vs ds → RpA S H ws es → RpA S H (vs ++ ws) (ds ++ es)
  | _, _, _, _, .nil, s => s
  | _, _, _, _, .cons h t, s => .cons h (RpA.append t s)
theorem RpA.set : ∀ {vs : List V} {ds : List D} {v : V} {d : D} (i : Nat), Rp S H v d → RpA S H vs ds → RpA S H (vs.set i v) (ds.set i d)
  | _, _, _, _, _, _, .nil => .nil
  | _, _, _, _, 0, r, .cons _ t => .cons r t
  | _, _, _, _, i + 1, r, .cons h t => .cons h (RpA.set i r t)
theorem RpA.take : ∀ {vs : List V} {ds : List D} (n : Nat), RpA S H vs ds → RpA S H (vs.take n) (ds.take n)
  | _, _, 0, _ => by simp; exact .nil
  | _, _, _ + 1, .nil => .nil
  | _, _, n + 1, .cons r t => .cons r (RpA.take n t)
theorem RpA.drop : ∀ {vs : List V} {ds : List D} (n : Nat), RpA S H vs ds → RpA S H (vs.drop n) (ds.drop n)
  | _, _, 0, r => r
  | _, _, _ + 1, .nil => .nil
  | _, _, n + 1, .cons _ t => RpA.drop n t
end
inductive M where
  | lst (ds : List D)
  | ins (C : Addr) (fs : List (Str × D))
  | dK (kvs : List (Key × D))
  | dT (kvs : List (List Key × D))
  | fzK (o : Obj) (vs : List (Key × V)) (kvs : List (Key × D))
  | fzT (o : Obj) (vs : List (List Key × V)) (kvs : List (List Key × D))
abbrev Mem := List (Addr × M)
abbrev Gm := List (Option D)
abbrev adr (μ : Mem) : List Addr := μ.map (·.1)
def vis (N H : Hp) (A : List Addr) : Hp := fun b => if (N b).isSome = true ∨ b ∈ A then none else H b
theorem vis_le {N H : Hp} {A : List Addr} : Ex (vis N H A) H := fun a o e => by
  unfold vis at e
  split at e
  · cases e
  · exact e
theorem vis_mk {N H : Hp} {A : List Addr} {b : Addr} {o : HO} (e : H b = some o) (hn : N b = none) (ha : b ∉ A) : vis N H A b = some o := by
  unfold vis
  rw [if_neg (by rw [hn]; simp [ha])]
  exact e
theorem vis_in {N H : Hp} {A : List Addr} {b : Addr} {o : HO} (e : vis N H A b = some o) : N b = none ∧ b ∉ A ∧ H b = some o := by
  unfold vis at e
  split at e
  · cases e
  · rename_i h
    refine ⟨?_, fun z => h (.inr z), e⟩
    cases q : N b with
    | none => rfl
    | some x => exact absurd (.inl (by rw [q]; rfl)) h
inductive RpF (S : Sg0) (H : Hp) : List (Str × V) → List (Str × D) → Prop
  | nil : RpF S H [] []
  | cons {f : Str} {v : V} {d : D} {vs : List (Str × V)} {ds : List (Str × D)} : Rp S H v d → RpF S H vs ds → RpF S H ((f, v) :: vs) ((f, d) :: ds)
inductive RpK {κ : Type} (S : Sg0) (H : Hp) : List (κ × V) → List (κ × D) → Prop
  | nil : RpK S H [] []
  | cons {k : κ} {v : V} {d : D} {vs : List (κ × V)} {ds : List (κ × D)} : Rp S H v d → RpK S H vs ds → RpK S H ((k, v) :: vs) ((k, d) :: ds)
inductive RpM (S : Sg0) (H : Hp) : M → HO → Prop
  | lst {ds : List D} {xs : List V} : RpA S H xs ds → RpM S H (.lst ds) (.lst xs)
  | ins {C dx : Addr} {fs : List (Str × D)} {vs : List (Str × V)} : RpF S H vs fs → RpM S H (.ins C fs) (.ins C dx vs)
  | dK {kvs : List (Key × D)} {vs : List (Key × V)} : RpK S H vs kvs → RpM S H (.dK kvs) (.dK vs)
  | dT {kvs : List (List Key × D)} {vs : List (List Key × V)} : RpK S H vs kvs → RpM S H (.dT kvs) (.dT vs)
  | fzK {o : Obj} {kvs : List (Key × D)} {vs : List (Key × V)} : RpK S H vs kvs → RpM S H (.fzK o vs kvs) (.frz o (.dK vs))
  | fzT {o : Obj} {kvs : List (List Key × D)} {vs : List (List Key × V)} : RpK S H vs kvs → RpM S H (.fzT o vs kvs) (.frz o (.dT vs))
theorem RpF.ext {S : Sg0} {H H' : Hp} (e : Ex H H') : ∀ {vs : List (Str × V)} {ds : List (Str × D)}, RpF S H vs ds → RpF S H' vs ds
  | _, _, .nil => .nil
  | _, _, .cons h t => .cons (h.ext e) (RpF.ext e t)
theorem RpK.ext {κ : Type} {S : Sg0} {H H' : Hp} (e : Ex H H') : ∀ {vs : List (κ × V)} {ds : List (κ × D)}, RpK S H vs ds → RpK S H' vs ds
  | _, _, .nil => .nil
  | _, _, .cons h t => .cons (h.ext e) (RpK.ext e t)
theorem RpM.ext {S : Sg0} {H H' : Hp} (e : Ex H H') {m : M} {o : HO} (r : RpM S H m o) : RpM S H' m o := by
  cases r with
  | lst h => exact .lst (h.ext e)
  | ins h => exact .ins (h.ext e)
  | dK h => exact .dK (h.ext e)
  | dT h => exact .dT (h.ext e)
  | fzK h => exact .fzK (h.ext e)
  | fzT h => exact .fzT (h.ext e)
theorem RpM.notup {S : Sg0} {H : Hp} {m : M} {o : HO} (r : RpM S H m o) : ∀ xs, o ≠ .tup xs := fun xs h => by
  cases r <;> cases h
structure RelM0 (S : Sg0) (F N H : Hp) (μ : Mem) : Prop where
  hid : Ex N H
  dis : ∀ a ∈ adr μ, N a = none
  ext : Ex F (vis N H (adr μ))
  nd : (adr μ).Nodup
  mem : ∀ p ∈ μ, ∃ o, H p.1 = some o ∧ RpM S (vis N H (adr μ)) p.2 o
  tup : ∀ a xs, N a ≠ some (.tup xs)
abbrev RelO1 (S : Sg0) (Hv : Hp) (o : Option V) (g : Option D) : Prop := ∀ d, g = some d → ∃ v, o = some v ∧ Rp S Hv v d
abbrev RelS (S : Sg0) (Hv : Hp) (σ : L2.St) (Γ : Gm) : Prop := Paired (RelO1 S Hv) σ Γ
section
variable {S : Sg0} {F F' N H H' Hv Hv' : Hp} {μ μ' : Mem} {σ : L2.St} {Γ : Gm}
theorem RelS.ext (e : Ex Hv Hv') (r : RelS S Hv σ Γ) : RelS S Hv' σ Γ := Paired.mapP r fun a b h d hd => by
  obtain ⟨v, hv, r⟩ := h d hd
  exact ⟨v, hv, r.ext e⟩
theorem RelS.get {d : D} : ∀ {σ : L2.St} {Γ : Gm} {i : Nat}, RelS S Hv σ Γ → Γ[i]? = some (some d) → ∃ v, σ[i]? = some (some v) ∧ Rp S Hv v d
  | _, _, _, .nil, e => by simp at e
  | _, _, 0, .cons h _, e => by
    simp at e
    subst e
    obtain ⟨v, hv, r⟩ := h _ rfl
    exact ⟨v, by simp [hv], r⟩
  | _, _, i + 1, .cons _ t, e => by
    obtain ⟨v, hv, r⟩ := RelS.get (d := d) (i := i) t (by simpa using e)
    exact ⟨v, by simpa using hv, r⟩
theorem RelS.set {v : V} {d : D} (r : Rp S Hv v d) : ∀ {σ : L2.St} {Γ : Gm} (i : Nat), RelS S Hv σ Γ → RelS S Hv (σ.set i (some v)) (Γ.set i (some d))
  | _, _, _, .nil => .nil
  | _, _, 0, .cons _ t => .cons (fun d hd => ⟨v, rfl, by cases hd; exact r⟩) t
  | _, _, i + 1, .cons h t => .cons h (RelS.set r i t)
theorem RelM0.weakF (r : RelM0 S F N H μ) (e : Ex F' F) : RelM0 S F' N H μ := ⟨r.hid, r.dis, e.trans r.ext, r.nd, r.mem, r.tup⟩
theorem RelM0.top (r : RelM0 S F N H μ) : RelM0 S (vis N H (adr μ)) N H μ := ⟨r.hid, r.dis, Ex.refl _, r.nd, r.mem, r.tup⟩
theorem RelM0.le (r : RelM0 S F N H μ) : Ex F H := r.ext.trans vis_le
theorem RelM0.unhide {p : Addr} {o : HO} (r : RelM0 S F (upd N p o) H μ) (hN : N p = none) : RelM0 S F N H μ ∧ Ex (vis (upd N p o) H (adr μ)) (vis N H (adr μ)) ∧ vis N H (adr μ) p = some o := by
  have hp : H p = some o := r.hid p o upd_same
  have hpm : p ∉ adr μ := fun h => by
    have := r.dis p h
    rw [upd_same] at this
    cases this
  have e : Ex (vis (upd N p o) H (adr μ)) (vis N H (adr μ)) := fun b u h => by
    obtain ⟨h1, h2, h3⟩ := vis_in h
    refine vis_mk h3 ?_ h2
    by_cases hb : b = p
    · rw [hb]
      exact hN
    · rwa [upd_ne hb] at h1
  refine ⟨⟨fun b u h => r.hid b u (by rw [upd_ne (ne_of_none h hN)]; exact h), fun b hb => ?_, r.ext.trans e, r.nd, fun q hq => ?_, fun b xs h => r.tup b xs (by rw [upd_ne (ne_of_none h hN)]; exact h)⟩, e, vis_mk hp hN hpm⟩
  · have := r.dis b hb
    rwa [upd_ne (fun (z : b = p) => hpm (z ▸ hb))] at this
  · obtain ⟨u, h1, h2⟩ := r.mem q hq
    exact ⟨u, h1, h2.ext e⟩
end
abbrev QE := Nat → List D → Mem → Prop
def XEnd (S : Sg0) (F N : Hp) (qx : QE) : XK := fun cls d H => ∃ c dd vs ds μ, cls = .ref (S.cls c) ∧ d = some dd ∧ H dd = some (.xd ((S.nms c).zip vs)) ∧ vs.length = (S.nms c).length ∧ RpA S (vis N H (adr μ)) vs ds ∧ RelM0 S F N H μ ∧ N dd = none ∧ dd ∉ adr μ ∧ qx c ds μ
structure Sg extends Sg0 where
  qx : QE
  wx : XK
instance : CoeOut Sg Sg0 := ⟨Sg.toSg0⟩
abbrev Sg0.nx (S : Sg0) : Sg := { toSg0 := S, qx := fun _ _ _ => False, wx := fun _ _ _ => False }
def Sg.iv (S : Sg) (F N : Hp) : Prop := ∀ cls d H, XEnd S F N S.qx cls d H → S.wx cls d H
theorem nx_iv {S : Sg0} {F N : Hp} : S.nx.iv F N := fun _ _ _ ⟨_, _, _, _, _, _, _, _, _, _, _, _, _, q⟩ => q
structure RelM (S : Sg) (F N H : Hp) (μ : Mem) : Prop extends RelM0 S.toSg0 F N H μ where
  iv : S.iv F N
instance {S : Sg} {F N H : Hp} {μ : Mem} : CoeOut (RelM S F N H μ) (RelM0 S.toSg0 F N H μ) := ⟨RelM.toRelM0⟩
section
variable {S : Sg} {F F' N H H' Hv Hv' : Hp} {μ μ' : Mem} {σ : L2.St} {Γ : Gm}
theorem iv_ext (i : S.iv F N) (e : Ex F F') : S.iv F' N := fun cls d H ⟨c, dd, vs, ds, μ, h1, h2, h3, hl, h4, r, h5⟩ => i cls d H ⟨c, dd, vs, ds, μ, h1, h2, h3, hl, h4, r.weakF e, h5⟩
theorem iv_hid {p : Addr} {o : HO} (i : S.iv F N) (hN : N p = none) : S.iv F (upd N p o) := fun cls d H ⟨c, dd, vs, ds, μ, h1, h2, h3, hl, h4, r, h5, h6, h7⟩ => by
  obtain ⟨u1, u2, _⟩ := r.unhide hN
  refine i cls d H ⟨c, dd, vs, ds, μ, h1, h2, h3, hl, h4.ext u2, u1, ?_, h6, h7⟩
  by_cases hb : dd = p
  · rw [hb]
    exact hN
  · rwa [upd_ne hb] at h5
theorem RelM.weakF (r : RelM S F N H μ) (e : Ex F' F) (i : S.iv F' N := by exact RelM.iv (by assumption)) : RelM S F' N H μ := ⟨r.toRelM0.weakF e, i⟩
theorem RelM.top (r : RelM S F N H μ) : RelM S (vis N H (adr μ)) N H μ := ⟨r.toRelM0.top, iv_ext r.iv r.ext⟩
theorem RelM.le (r : RelM S F N H μ) : Ex F H := r.ext.trans vis_le
end
structure EXt (X : Cx) (e : Expr) (σ : L2.St) (H : Hp) (Q : VK) : Prop where
  run : ∀ (pins : List (Addr × Obj)) (s : Shared), Inv X pins σ H s → wpAny (model X.prog X.w) X.A (eval e X.env) (EP X pins σ Q) X.xe s
instance {X : Cx} {e : Expr} {σ : L2.St} {H : Hp} {Q : VK} : CoeFun (EXt X e σ H Q) fun _ => ∀ (pins : List (Addr × Obj)) (s : Shared), Inv X pins σ H s → wpAny (model X.prog X.w) X.A (eval e X.env) (EP X pins σ Q) X.xe s := ⟨EXt.run⟩
theorem pe_ex {X : Cx} {e : Expr} : PE X e (EXt X e) := ⟨fun pins s _ _ _ I h => h pins s I⟩
theorem ex_of {X : Cx} {e : Expr} {t : TE} {σ : L2.St} {H : Hp} {Q : VK} (p : PE X e t) (h : t σ H Q) : EXt X e σ H Q := ⟨fun pins s I => p.run pins s σ H Q I h⟩
theorem EXt.mono {X : Cx} {e : Expr} {σ : L2.St} {H : Hp} {Q Q' : VK} (h : EXt X e σ H Q) (m : ∀ v H', Q v H' → Q' v H') : EXt X e σ H Q' := ⟨fun pins s I =>
  thn (h pins s I) fun _ _ ⟨v, H', I', r, q⟩ => ⟨v, H', I', r, m v H' q⟩⟩
structure TXt (X : Cx) (e : Expr) (σ : L2.St) (H : Hp) (Q : Bool → Hp → Prop) : Prop where
  run : ∀ (pins : List (Addr × Obj)) (s : Shared), Inv X pins σ H s → wpAny (model X.prog X.w) X.A (isTrue e X.env (eval e X.env)) (TP X pins σ Q) X.xe s
instance {X : Cx} {e : Expr} {σ : L2.St} {H : Hp} {Q : Bool → Hp → Prop} : CoeFun (TXt X e σ H Q) fun _ => ∀ (pins : List (Addr × Obj)) (s : Shared), Inv X pins σ H s → wpAny (model X.prog X.w) X.A (isTrue e X.env (eval e X.env)) (TP X pins σ Q) X.xe s := ⟨TXt.run⟩
theorem pt_ex {X : Cx} {e : Expr} : PT X e (TXt X e) := ⟨fun pins s _ _ _ I h => h pins s I⟩
theorem tx_of {X : Cx} {e : Expr} {t : TT} {σ : L2.St} {H : Hp} {Q : Bool → Hp → Prop} (p : PT X e t) (h : t σ H Q) : TXt X e σ H Q := ⟨fun pins s I => p.run pins s σ H Q I h⟩
theorem TXt.mono {X : Cx} {e : Expr} {σ : L2.St} {H : Hp} {Q Q' : Bool → Hp → Prop} (h : TXt X e σ H Q) (m : ∀ v H', Q v H' → Q' v H') : TXt X e σ H Q' := ⟨fun pins s I =>
  thn (h pins s I) fun _ _ ⟨H', I', q⟩ => ⟨H', I', m _ H' q⟩⟩
structure WXt (X : Cx) (e : Expr) (σ : L2.St) (H : Hp) (Q : Bool → Hp → Prop) : Prop where
  run : ∀ (wh : Sem Value) (pins : List (Addr × Obj)) (s : Shared), Inv X pins σ H s → wpAny (model X.prog X.w) X.A (isTrue e X.env wh) (TP X pins σ Q) X.xe s
instance {X : Cx} {e : Expr} {σ : L2.St} {H : Hp} {Q : Bool → Hp → Prop} : CoeFun (WXt X e σ H Q) fun _ => ∀ (wh : Sem Value) (pins : List (Addr × Obj)) (s : Shared), Inv X pins σ H s → wpAny (model X.prog X.w) X.A (isTrue e X.env wh) (TP X pins σ Q) X.xe s := ⟨WXt.run⟩
theorem pw_ex {X : Cx} {e : Expr} : PW X e (WXt X e) := ⟨fun wh pins s _ _ _ I h => h wh pins s I⟩
theorem wx_of {X : Cx} {e : Expr} {t : TT} {σ : L2.St} {H : Hp} {Q : Bool → Hp → Prop} (p : PW X e t) (h : t σ H Q) : WXt X e σ H Q := ⟨fun wh pins s I => p.run wh pins s σ H Q I h⟩
structure AXt (X : Cx) (es : List Expr) (σ : L2.St) (H : Hp) (Q : List V → Hp → Prop) : Prop where
  run : ∀ (pos : Pos) (pins : List (Addr × Obj)) (s : Shared), Inv X pins σ H s → wpAny (model X.prog X.w) X.A (spliced (backTo pos (starEach es X.env))) (AP X pins σ Q) X.xe s
instance {X : Cx} {es : List Expr} {σ : L2.St} {H : Hp} {Q : List V → Hp → Prop} : CoeFun (AXt X es σ H Q) fun _ => ∀ (pos : Pos) (pins : List (Addr × Obj)) (s : Shared), Inv X pins σ H s → wpAny (model X.prog X.w) X.A (spliced (backTo pos (starEach es X.env))) (AP X pins σ Q) X.xe s := ⟨AXt.run⟩
theorem pa_ex {X : Cx} {es : List Expr} : PA X es (AXt X es) := ⟨fun pos pins s _ _ _ I h => h pos pins s I⟩
theorem ax_of {X : Cx} {es : List Expr} {t : TA} {σ : L2.St} {H : Hp} {Q : List V → Hp → Prop} (p : PA X es t) (h : t σ H Q) : AXt X es σ H Q := ⟨fun pos pins s I => p.run pos pins s σ H Q I h⟩
theorem AXt.mono {X : Cx} {es : List Expr} {σ : L2.St} {H : Hp} {Q Q' : List V → Hp → Prop} (h : AXt X es σ H Q) (m : ∀ v H', Q v H' → Q' v H') : AXt X es σ H Q' := ⟨fun pos pins s I =>
  thn (h pos pins s I) fun _ _ ⟨v, H', I', r, q⟩ => ⟨v, H', I', r, m v H' q⟩⟩
structure SXt (X : Cx) (st : Stmt) (D : Ends) (σ : L2.St) (H : Hp) : Prop where
  run : ∀ (pins : List (Addr × Obj)) (s : Shared), Inv X pins σ H s → wpAny (model X.prog X.w) X.A (exec st X.env) (SP X pins D) X.xe s
instance {X : Cx} {st : Stmt} {D : Ends} {σ : L2.St} {H : Hp} : CoeFun (SXt X st D σ H) fun _ => ∀ (pins : List (Addr × Obj)) (s : Shared), Inv X pins σ H s → wpAny (model X.prog X.w) X.A (exec st X.env) (SP X pins D) X.xe s := ⟨SXt.run⟩
theorem ps_ex {X : Cx} {st : Stmt} : PS X st (SXt X st) := ⟨fun pins s _ _ _ I h => h pins s I⟩
theorem sx_of {X : Cx} {st : Stmt} {t : TS} {D : Ends} {σ : L2.St} {H : Hp} (p : PS X st t) (h : t D σ H) : SXt X st D σ H := ⟨fun pins s I => p.run pins s σ H D I h⟩
structure BXt (X : Cx) (st : List Stmt) (D : Ends) (σ : L2.St) (H : Hp) : Prop where
  run : ∀ (pins : List (Addr × Obj)) (s : Shared), Inv X pins σ H s → wpAny (model X.prog X.w) X.A (execs st X.env) (SP X pins D) X.xe s
instance {X : Cx} {st : List Stmt} {D : Ends} {σ : L2.St} {H : Hp} : CoeFun (BXt X st D σ H) fun _ => ∀ (pins : List (Addr × Obj)) (s : Shared), Inv X pins σ H s → wpAny (model X.prog X.w) X.A (execs st X.env) (SP X pins D) X.xe s := ⟨BXt.run⟩
theorem pss_ex {X : Cx} {st : List Stmt} : PSs X st (BXt X st) := ⟨fun pins s _ _ _ I h => h pins s I⟩
theorem bx_of {X : Cx} {st : List Stmt} {t : TS} {D : Ends} {σ : L2.St} {H : Hp} (p : PSs X st t) (h : t D σ H) : BXt X st D σ H := ⟨fun pins s I => p.run pins s σ H D I h⟩
abbrev QD := D → Mem → Prop
abbrev EndE (S : Sg) (F N : Hp) (Q : QD) : VK := fun v H' => ∃ d μ', RelM S F N H' μ' ∧ Rp S (vis N H' (adr μ')) v d ∧ Q d μ'
abbrev EndT (S : Sg) (F N : Hp) (Q : Bool → Mem → Prop) : Bool → Hp → Prop := fun b H' => ∃ μ', RelM S F N H' μ' ∧ Q b μ'
abbrev EndA (S : Sg) (F N : Hp) (Q : List D → Mem → Prop) : List V → Hp → Prop := fun vs H' => ∃ ds μ', RelM S F N H' μ' ∧ RpA S (vis N H' (adr μ')) vs ds ∧ Q ds μ'
def EvG (X : Cx) (S : Sg) (e : Expr) (Γ : Gm) (μ : Mem) (Q : QD) : Prop :=
  ∀ F N σ H, RelM S F N H μ → RelS S (vis N H (adr μ)) σ Γ → EXt X e σ H (EndE S F N Q)
def EvT (X : Cx) (S : Sg) (e : Expr) (Γ : Gm) (μ : Mem) (Q : Bool → Mem → Prop) : Prop :=
  ∀ F N σ H, RelM S F N H μ → RelS S (vis N H (adr μ)) σ Γ → TXt X e σ H (EndT S F N Q)
def EvW (X : Cx) (S : Sg) (e : Expr) (Γ : Gm) (μ : Mem) (Q : Bool → Mem → Prop) : Prop :=
  ∀ F N σ H, RelM S F N H μ → RelS S (vis N H (adr μ)) σ Γ → WXt X e σ H (EndT S F N Q)
def EvA (X : Cx) (S : Sg) (es : List Expr) (Γ : Gm) (μ : Mem) (Q : List D → Mem → Prop) : Prop :=
  ∀ F N σ H, RelM S F N H μ → RelS S (vis N H (adr μ)) σ Γ → AXt X es σ H (EndA S F N Q)
structure EG where
  nx : Gm → Mem → Prop
  rt : QD
  bk : Gm → Mem → Prop := fun _ _ => False
  ct : Gm → Mem → Prop := fun _ _ => False
abbrev EndS (S : Sg) (F N : Hp) (P : Gm → Mem → Prop) : L2.St → Hp → Prop := fun σ' H' => ∃ Γ' μ', RelM S F N H' μ' ∧ RelS S (vis N H' (adr μ')) σ' Γ' ∧ P Γ' μ'
abbrev EG.ends (S : Sg) (F N : Hp) (E : EG) : Ends := ⟨EndS S F N E.nx, EndE S F N E.rt, EndS S F N E.bk, EndS S F N E.ct⟩
def StG (X : Cx) (S : Sg) (st : Stmt) (Γ : Gm) (μ : Mem) (E : EG) : Prop :=
  ∀ F N σ H, RelM S F N H μ → RelS S (vis N H (adr μ)) σ Γ → SXt X st (E.ends S F N) σ H
def BlG (X : Cx) (S : Sg) (st : List Stmt) (Γ : Gm) (μ : Mem) (E : EG) : Prop :=
  ∀ F N σ H, RelM S F N H μ → RelS S (vis N H (adr μ)) σ Γ → BXt X st (E.ends S F N) σ H
section
variable {X : Cx} {S : Sg} {e : Expr} {es : List Expr} {st : Stmt} {sts : List Stmt} {Γ : Gm} {μ : Mem} {F N H : Hp} {σ : L2.St}
theorem EvG.use {Q : QD} {P : VK} (h : EvG X S e Γ μ Q) (r : RelM S F N H μ) (rs : RelS S (vis N H (adr μ)) σ Γ)
    (k : ∀ v H' d μ', RelM S (vis N H (adr μ)) N H' μ' → RelS S (vis N H' (adr μ')) σ Γ → Rp S (vis N H' (adr μ')) v d → Q d μ' → P v H') : EXt X e σ H P :=
  (h (vis N H (adr μ)) N σ H r.top rs).mono fun v H' ⟨d, μ', r', rd, q⟩ => k v H' d μ' r' (rs.ext r'.ext) rd q
theorem EvT.use {Q : Bool → Mem → Prop} {P : Bool → Hp → Prop} (h : EvT X S e Γ μ Q) (r : RelM S F N H μ) (rs : RelS S (vis N H (adr μ)) σ Γ)
    (k : ∀ b H' μ', RelM S (vis N H (adr μ)) N H' μ' → RelS S (vis N H' (adr μ')) σ Γ → Q b μ' → P b H') : TXt X e σ H P :=
  (h (vis N H (adr μ)) N σ H r.top rs).mono fun v H' ⟨μ', r', q⟩ => k v H' μ' r' (rs.ext r'.ext) q
theorem EvA.use {Q : List D → Mem → Prop} {P : List V → Hp → Prop} (h : EvA X S es Γ μ Q) (r : RelM S F N H μ) (rs : RelS S (vis N H (adr μ)) σ Γ)
    (k : ∀ vs H' ds μ', RelM S (vis N H (adr μ)) N H' μ' → RelS S (vis N H' (adr μ')) σ Γ → RpA S (vis N H' (adr μ')) vs ds → Q ds μ' → P vs H') : AXt X es σ H P :=
  (h (vis N H (adr μ)) N σ H r.top rs).mono fun v H' ⟨d, μ', r', rd, q⟩ => k v H' d μ' r' (rs.ext r'.ext) rd q
theorem EvG.mono {Q Q' : QD} (h : EvG X S e Γ μ Q) (m : ∀ d μ', Q d μ' → Q' d μ') : EvG X S e Γ μ Q' := fun F N σ H r rs =>
  (h F N σ H r rs).mono fun _ _ ⟨d, μ', r', rd, q⟩ => ⟨d, μ', r', rd, m d μ' q⟩
end
end GL
namespace GL
open PySem L2 PySem.Spec PyProof.Rows
section
variable {S : Sg0} {F N H H' : Hp} {μ : Mem} {p a : Addr} {o : HO}
theorem adr_some (r : RelM0 S F N H μ) (h : a ∈ adr μ) : ∃ o, H a = some o := by
  obtain ⟨q, hq, rfl⟩ := List.mem_map.mp h
  obtain ⟨o, e, _⟩ := r.mem q hq
  exact ⟨o, e⟩
theorem adr_new (r : RelM0 S F N H μ) (hp : H p = none) : p ∉ adr μ := fun h => by
  obtain ⟨o, e⟩ := adr_some r h
  rw [hp] at e
  cases e
theorem hid_new (r : RelM0 S F N H μ) (hp : H p = none) : N p = none := by
  cases q : N p with
  | none => rfl
  | some o =>
    have := r.hid p o q
    rw [hp] at this
    cases this
theorem vis_new (r : RelM0 S F N H μ) (hp : H p = none) : Ex (vis N H (adr μ)) (vis N (upd H p o) (adr μ)) := fun b u e => by
  obtain ⟨h1, h2, h3⟩ := vis_in e
  exact vis_mk (by rw [upd_ne (ne_of_none h3 hp)]; exact h3) h1 h2
theorem RelM0.alloc (r : RelM0 S F N H μ) (hp : H p = none) : RelM0 S F N (upd H p o) μ where
  hid := fun b u e => by
    have e' := r.hid b u e
    rw [upd_ne (ne_of_none e' hp)]
    exact e'
  dis := r.dis
  tup := r.tup
  ext := r.ext.trans (vis_new r hp)
  nd := r.nd
  mem := fun q hq => by
    obtain ⟨u, e, m⟩ := r.mem q hq
    exact ⟨u, by rw [upd_ne (ne_of_none e hp)]; exact e, m.ext (vis_new r hp)⟩
theorem alloc_at (r : RelM0 S F N H μ) (hp : H p = none) : vis N (upd H p o) (adr μ) p = some o := vis_mk upd_same (hid_new r hp) (adr_new r hp)
theorem vis_same {m : M} (r : RelM0 S F N H μ) (hp : H p = none) : Ex (vis N H (adr μ)) (vis N (upd H p o) (adr ((p, m) :: μ))) := fun b u e => by
  obtain ⟨h1, h2, h3⟩ := vis_in e
  have ne : b ≠ p := ne_of_none h3 hp
  exact vis_mk (by rw [upd_ne ne]; exact h3) h1 (by
    show b ∉ p :: adr μ
    simp only [List.mem_cons, not_or]
    exact ⟨ne, h2⟩)
theorem RelM0.allocM {m : M} (r : RelM0 S F N H μ) (hp : H p = none) (hm : RpM S (vis N H (adr μ)) m o) : RelM0 S F N (upd H p o) ((p, m) :: μ) where
  hid := fun b u e => by
    have e' := r.hid b u e
    rw [upd_ne (ne_of_none e' hp)]
    exact e'
  dis := fun b hb => by
    rcases List.mem_cons.mp hb with rfl | hb
    · exact hid_new r hp
    · exact r.dis b hb
  ext := r.ext.trans (vis_same r hp)
  tup := r.tup
  nd := List.nodup_cons.mpr ⟨adr_new r hp, r.nd⟩
  mem := fun q hq => by
    rcases List.mem_cons.mp hq with rfl | hq
    · exact ⟨o, upd_same, hm.ext (vis_same r hp)⟩
    · obtain ⟨u, e, m⟩ := r.mem q hq
      exact ⟨u, by rw [upd_ne (ne_of_none e hp)]; exact e, m.ext (vis_same r hp)⟩
end
inductive Upd (a : Addr) (m m' : M) : Mem → Mem → Prop
  | here {r : Mem} : Upd a m m' ((a, m) :: r) ((a, m') :: r)
  | there {p : Addr × M} {r r' : Mem} : Upd a m m' r r' → Upd a m m' (p :: r) (p :: r')
theorem Upd.adr {a : Addr} {m m' : M} {μ μ' : Mem} (u : Upd a m m' μ μ') : adr μ' = adr μ := by
  induction u with
  | here => rfl
  | there _ ih => exact congrArg (_ :: ·) ih
theorem Upd.mem {a : Addr} {m m' : M} {μ μ' : Mem} (u : Upd a m m' μ μ') : (a, m) ∈ μ := by
  induction u with
  | here => exact .head _
  | there _ ih => exact .tail _ ih
theorem Upd.out {a : Addr} {m m' : M} {μ μ' : Mem} (u : Upd a m m' μ μ') : ∀ q ∈ μ', q = (a, m') ∨ (q ∈ μ) := by
  induction u with
  | here => intro q hq; rcases List.mem_cons.mp hq with h | h; exact .inl h; exact .inr (.tail _ h)
  | there _ ih => intro q hq; rcases List.mem_cons.mp hq with h | h; exact .inr (h ▸ .head _); exact (ih q h).imp id (.tail _)
theorem Upd.out' {a : Addr} {m m' : M} {μ μ' : Mem} (u : Upd a m m' μ μ') (nd : (GL.adr μ).Nodup) : ∀ q ∈ μ', q = (a, m') ∨ (q ∈ μ ∧ q.1 ≠ a) := by
  induction u with
  | @here r =>
    intro q hq
    rcases List.mem_cons.mp hq with h | h
    · exact .inl h
    · refine .inr ⟨.tail _ h, fun e => ?_⟩
      have h1 : a ∉ GL.adr r := (List.nodup_cons.mp nd).1
      exact h1 (e ▸ List.mem_map_of_mem h)
  | @there p r r' u ih =>
    intro q hq
    rcases List.mem_cons.mp hq with h | h
    · refine .inr ⟨h ▸ .head _, fun e => ?_⟩
      have h1 : p.1 ∉ GL.adr r := (List.nodup_cons.mp nd).1
      rw [h] at e
      rw [e] at h1
      exact h1 (List.mem_map_of_mem u.mem)
    · rcases ih (List.nodup_cons.mp nd).2 q h with z | ⟨z, y⟩
      · exact .inl z
      · exact .inr ⟨.tail _ z, y⟩
section
variable {S : Sg0} {F N H H' : Hp} {μ μ' : Mem} {p a : Addr} {o : HO} {m m' : M}
theorem RelM0.find (r : RelM0 S F N H μ) (h : (a, m) ∈ μ) : ∃ o, H a = some o ∧ RpM S (vis N H (adr μ)) m o := r.mem (a, m) h
theorem vis_upd (h : a ∈ adr μ) : vis N (upd H a o) (adr μ) = vis N H (adr μ) := by
  funext b
  unfold vis
  by_cases hb : b = a
  · subst hb
    rw [if_pos (.inr h), if_pos (.inr h)]
  · rw [upd_ne hb]
theorem RelM0.put (r : RelM0 S F N H μ) (u : Upd a m m' μ μ') (hm : RpM S (vis N H (adr μ)) m' o) : RelM0 S F N (L2.upd H a o) μ' := by
  have ha : a ∈ adr μ := List.mem_map_of_mem u.mem
  have hN : N a = none := r.dis a ha
  refine ⟨fun b v e => ?_, by rw [u.adr]; exact r.dis, by rw [u.adr, vis_upd ha]; exact r.ext, by rw [u.adr]; exact r.nd, fun q hq => ?_, r.tup⟩
  · by_cases hb : b = a
    · subst hb
      rw [hN] at e
      cases e
    · rw [upd_ne hb]
      exact r.hid b v e
  · rw [u.adr, vis_upd ha]
    rcases u.out' r.nd q hq with rfl | ⟨hq, hne⟩
    · exact ⟨o, upd_same, hm⟩
    · obtain ⟨v, e, hv⟩ := r.mem q hq
      exact ⟨v, by rw [upd_ne hne]; exact e, hv⟩
end
inductive Del (a : Addr) (m : M) : Mem → Mem → Prop
  | here {r : Mem} : Del a m ((a, m) :: r) r
  | there {p : Addr × M} {r r' : Mem} : Del a m r r' → Del a m (p :: r) (p :: r')
theorem Del.mem {a : Addr} {m : M} {μ μ' : Mem} (u : Del a m μ μ') : (a, m) ∈ μ := by
  induction u with
  | here => exact .head _
  | there _ ih => exact .tail _ ih
theorem Del.sub {a : Addr} {m : M} {μ μ' : Mem} (u : Del a m μ μ') : ∀ q ∈ μ', q ∈ μ := by
  induction u with
  | here => exact fun q h => .tail _ h
  | there _ ih => intro q hq; rcases List.mem_cons.mp hq with h | h; exact h ▸ .head _; exact .tail _ (ih q h)
theorem Del.adrs {a : Addr} {m : M} {μ μ' : Mem} (u : Del a m μ μ') (nd : (adr μ).Nodup) : (adr μ').Nodup ∧ ∀ b, b ∈ adr μ' ↔ (b ∈ adr μ ∧ b ≠ a) := by
  induction u with
  | @here r =>
    refine ⟨(List.nodup_cons.mp nd).2, fun b => ⟨fun h => ⟨.tail _ h, fun e => (List.nodup_cons.mp nd).1 (e ▸ h)⟩, fun h => ?_⟩⟩
    rcases List.mem_cons.mp h.1 with e | h'
    · exact absurd e h.2
    · exact h'
  | @there p r r' u ih =>
    obtain ⟨i1, i2⟩ := ih (List.nodup_cons.mp nd).2
    have hp := (List.nodup_cons.mp nd).1
    have hpa : p.1 ≠ a := fun e => hp (by
      have z : a ∈ adr r := List.mem_map_of_mem u.mem
      rw [← e] at z
      exact z)
    refine ⟨List.nodup_cons.mpr ⟨fun h => hp ((i2 _).mp h).1, i1⟩, fun b => ⟨fun h => ?_, fun h => ?_⟩⟩
    · rcases List.mem_cons.mp h with e | h'
      · exact ⟨e ▸ .head _, e ▸ hpa⟩
      · exact ⟨.tail _ ((i2 b).mp h').1, ((i2 b).mp h').2⟩
    · rcases List.mem_cons.mp h.1 with e | h'
      · exact e ▸ .head _
      · exact .tail _ ((i2 b).mpr ⟨h', h.2⟩)
section
variable {S : Sg0} {F N H H' : Hp} {μ μ' : Mem} {p a : Addr} {o : HO} {m m' : M}
theorem vis_del (r : RelM0 S F N H μ) (u : Del a m μ μ') : Ex (vis N H (adr μ)) (vis N H (adr μ')) := fun b v e => by
  obtain ⟨h1, h2, h3⟩ := vis_in e
  exact vis_mk h3 h1 fun z => h2 (((u.adrs r.nd).2 b).mp z).1
theorem RelM0.del (r : RelM0 S F N H μ) (u : Del a m μ μ') : RelM0 S F N H μ' :=
  ⟨r.hid, fun b hb => r.dis b (((u.adrs r.nd).2 b).mp hb).1, r.ext.trans (vis_del r u), (u.adrs r.nd).1, fun q hq => by
    obtain ⟨v, e, hv⟩ := r.mem q (u.sub q hq)
    exact ⟨v, e, hv.ext (vis_del r u)⟩, r.tup⟩
theorem RelM0.froz {ds : List D} (r : RelM0 S F N H μ) (u : Del a (.lst ds) μ μ') : Rp S (vis N H (adr μ')) (.ref a) (.lst ds) := by
  obtain ⟨o, e, hm⟩ := r.find u.mem
  cases hm with
  | lst h =>
    refine .lst (vis_mk e (r.dis a (List.mem_map_of_mem u.mem)) fun z => (((u.adrs r.nd).2 a).mp z).2 rfl) (h.ext (vis_del r u))
theorem RpF.zip {Hv : Hp} : ∀ {ns : List Str} {ds : List D} {vs : List (Str × V)}, ns.length = ds.length → RpF S Hv vs (ns.zip ds) → ∃ ws, vs = ns.zip ws ∧ ws.length = ns.length ∧ RpA S Hv ws ds
  | [], [], _, _, h => by
    cases h
    exact ⟨[], rfl, rfl, .nil⟩
  | [], _ :: _, _, e, _ => by simp at e
  | _ :: _, [], _, e, _ => by simp at e
  | n :: ns, d :: ds, _, e, h => by
    cases h with
    | cons h t =>
      obtain ⟨ws, e1, e2, e3⟩ := RpF.zip (ns := ns) (ds := ds) (by simpa using e) t
      exact ⟨_ :: ws, by rw [e1]; rfl, by simp [e2], .cons h e3⟩
end
section
variable {S : Sg} {F N H H' : Hp} {μ μ' : Mem} {p a : Addr} {o : HO} {m m' : M}
theorem RelM.alloc (r : RelM S F N H μ) (hp : H p = none) : RelM S F N (upd H p o) μ := ⟨r.toRelM0.alloc hp, r.iv⟩
theorem RelM.allocM (r : RelM S F N H μ) (hp : H p = none) (hm : RpM S (vis N H (adr μ)) m o) : RelM S F N (upd H p o) ((p, m) :: μ) := ⟨r.toRelM0.allocM hp hm, r.iv⟩
theorem RelM.put (r : RelM S F N H μ) (u : Upd a m m' μ μ') (hm : RpM S (vis N H (adr μ)) m' o) : RelM S F N (L2.upd H a o) μ' := ⟨r.toRelM0.put u hm, r.iv⟩
theorem RelM.del (r : RelM S F N H μ) (u : Del a m μ μ') : RelM S F N H μ' := ⟨r.toRelM0.del u, r.iv⟩
end
inductive Drf (μ : Mem) : D → List D → Prop
  | val (l : List D) : Drf μ (.lst l) l
  | ref {a : Addr} {l : List D} : (a, M.lst l) ∈ μ → Drf μ (.ref a) l
inductive DrfT (μ : Mem) : D → List D → Prop
  | l {d : D} {ds : List D} : Drf μ d ds → DrfT μ d ds
  | t (l : List D) : DrfT μ (.tup l) l
theorem Drf.at {S : Sg0} {F N H : Hp} {μ : Mem} {d : D} {l : List D} {x : V} (h : Drf μ d l) (r : RelM0 S F N H μ) (rx : Rp S (vis N H (adr μ)) x d) : ∃ a xs, x = .ref a ∧ H a = some (.lst xs) ∧ RpA S (vis N H (adr μ)) xs l := by
  cases h with
  | val l =>
    cases rx with
    | lst h hs => exact ⟨_, _, rfl, vis_le _ _ h, hs⟩
  | ref hm =>
    cases rx
    obtain ⟨o, e, hm⟩ := r.find hm
    cases hm with
    | lst h => exact ⟨_, _, rfl, e, h⟩
mutual
def D.py : D → PyData
  | .non => .none
  | .bl b => .bool b
  | .int i => .int i
  | .str x => .str x
  | .lst l => .list (D.pyA l)
  | .tup l => .tuple (D.pyA l)
  | _ => .none
def D.pyA : List D → List PyData
  | [] => []
  | d :: l => D.py d :: D.pyA l
end
mutual
def D.ok : Nat → D → Bool
  | _, .non => true
  | _, .bl _ => true
  | _, .int _ => true
  | _, .str x => PyData.strOk x
  | n + 1, .lst l => D.okA n l
  | n + 1, .tup l => D.okA n l
  | _, _ => false
def D.okA : Nat → List D → Bool
  | _, [] => true
  | n, d :: l => D.ok n d && D.okA n l
end
theorem D.okA_all : ∀ {n : Nat} {l : List D}, D.okA n l = true ↔ ∀ d ∈ l, D.ok n d = true
  | n, [] => by simp [D.okA]
  | n, d :: l => by simp [D.okA, D.okA_all (l := l)]
mutual
theorem D.ok_lay : ∀ {n : Nat} {d : D}, D.ok n d = true → (D.py d).canLay0 = true ∧ (D.py d).depth ≤ n
  | n, .non, _ => by cases n <;> simp [D.py, PyData.canLay0, PyData.depth]
  | n, .bl b, _ => by cases n <;> simp [D.py, PyData.canLay0, PyData.depth]
  | n, .int i, _ => by cases n <;> simp [D.py, PyData.canLay0, PyData.depth]
  | n, .str x, h => by
    cases n <;> simp [D.ok] at h <;> simp [D.py, PyData.canLay0, PyData.depth, h]
  | 0, .lst l, h => by simp [D.ok] at h
  | n + 1, .lst l, h => by
    have := D.okA_lay (n := n) (l := l) (by simpa [D.ok] using h)
    refine ⟨by simp [D.py, PyData.canLay0, this.1], ?_⟩
    simp only [D.py, PyData.depth]
    have := this.2
    omega
  | 0, .tup l, h => by simp [D.ok] at h
  | n + 1, .tup l, h => by
    have := D.okA_lay (n := n) (l := l) (by simpa [D.ok] using h)
    refine ⟨by simp [D.py, PyData.canLay0, this.1], ?_⟩
    simp only [D.py, PyData.depth]
    have := this.2
    omega
  | n, .obj c l, h => by cases n <;> simp [D.ok] at h
  | n, .ref a, h => by cases n <;> simp [D.ok] at h
  | n, .scr a, h => by cases n <;> simp [D.ok] at h
  | n, .ty a, h => by cases n <;> simp [D.ok] at h
theorem D.okA_lay : ∀ {n : Nat} {l : List D}, D.okA n l = true → PyData.canLayAll0 (D.pyA l) = true ∧ PyData.depthAll (D.pyA l) ≤ n
  | n, [], _ => by simp [D.pyA, PyData.canLayAll0, PyData.depthAll]
  | n, d :: l, h => by
    have h' : D.ok n d = true ∧ D.okA n l = true := by simpa [D.okA] using h
    have h1 := D.ok_lay h'.1
    have h2 := D.okA_lay h'.2
    refine ⟨by simp [D.pyA, PyData.canLayAll0, h1.1, h2.1], ?_⟩
    simp only [D.pyA, PyData.depthAll]
    have := h1.2
    have := h2.2
    omega
end
theorem D.shaped {n : Nat} {d : D} (h : D.ok n d = true) (hn : n ≤ 60) : SeqAt.shaped (D.py d) = true := by
  have := D.ok_lay h
  show ((D.py d).canLay0 && decide ((D.py d).depth ≤ 64)) = true
  rw [this.1, Bool.true_and]
  exact decide_eq_true (by have := this.2; omega)
mutual
theorem Rp.dp {S : Sg0} {H : Hp} : ∀ {n : Nat} {d : D} {v : V}, D.ok n d = true → Rp S H v d → Dp S.K H v (D.py d)
  | _, .non, _, _, h => by cases h; simp only [D.py]; exact .non
  | _, .bl b, _, _, h => by cases h; simp only [D.py]; exact .bl b
  | _, .int i, _, _, h => by cases h; simp only [D.py]; exact .int i
  | _, .str x, _, _, h => by cases h; simp only [D.py]; exact .str x
  | 0, .lst l, _, e, h => by simp [D.ok] at e
  | n + 1, .lst l, _, e, h => by
    cases h with
    | lst h hs => simp only [D.py]; exact .lst (SqL.of h) (RpA.dp (n := n) (by simpa [D.ok] using e) hs)
  | 0, .tup l, _, e, h => by simp [D.ok] at e
  | n + 1, .tup l, _, e, h => by
    cases h with
    | tup h hs => simp only [D.py]; exact .tup h (RpA.dp (n := n) (by simpa [D.ok] using e) hs)
  | n, .obj c l, _, e, h => by cases n <;> simp [D.ok] at e
  | n, .ref a, _, e, h => by cases n <;> simp [D.ok] at e
  | n, .scr a, _, e, h => by cases n <;> simp [D.ok] at e
  | n, .ty a, _, e, h => by cases n <;> simp [D.ok] at e
theorem RpA.dp {S : Sg0} {H : Hp} : ∀ {n : Nat} {ds : List D} {vs : List V}, D.okA n ds = true → RpA S H vs ds → DpAll S.K H vs (D.pyA ds)
  | _, [], _, _, h => by cases h; simp only [D.pyA]; exact .nil
  | n, d :: ds, _, e, h => by
    have e' : D.ok n d = true ∧ D.okA n ds = true := by simpa [D.okA] using e
    cases h with
    | cons h t => simp only [D.pyA]; exact .cons (Rp.dp e'.1 h) (RpA.dp e'.2 t)
end
def D.eqv (d e : D) : Bool := PyData.eqv (D.py d) (D.py e)
end GL
namespace GL
open PySem L2 PySem.Spec PyProof.Rows
def OPt (X : Cx) (f : Value → Value → Sem Value) : R2 := fun x y H Q => ∀ (pins : List (Addr × Obj)) (s : Shared) (σ : L2.St) (v u : Value), Inv X pins σ H s → RelV x v → RelV y u → wpAny (model X.prog X.w) X.A (f v u) (EP X pins σ Q) X.xe s
theorem opr_self {X : Cx} {f : Value → Value → Sem Value} : OpR X f (OPt X f) := fun pins s σ _ _ _ v u _ I rx ry h => h pins s σ v u I rx ry
theorem op_of {X : Cx} {f : Value → Value → Sem Value} {r : R2} {x y : V} {H : Hp} {Q : VK} (h : OpR X f r) (q : r x y H Q) : OPt X f x y H Q := fun pins s σ v u I rx ry => h pins s σ H x y v u Q I rx ry q
def UNt (X : Cx) (f : Value → Sem Value) : V → Hp → VK → Prop := fun x H Q => ∀ (pins : List (Addr × Obj)) (s : Shared) (σ : L2.St) (v : Value), Inv X pins σ H s → RelV x v → wpAny (model X.prog X.w) X.A (f v) (EP X pins σ Q) X.xe s
theorem unr_self {X : Cx} {f : Value → Sem Value} : UnR X f (UNt X f) := fun pins s σ _ _ v _ I rx h => h pins s σ v I rx
theorem un_of {X : Cx} {f : Value → Sem Value} {r : V → Hp → VK → Prop} {x : V} {H : Hp} {Q : VK} (h : UnR X f r) (q : r x H Q) : UNt X f x H Q := fun pins s σ v I rx => h pins s σ H x v Q I rx q
def CPt (X : Cx) (f : Value) : List V → Hp → VK → Prop := fun xs H Q => ∀ (pins : List (Addr × Obj)) (s : Shared) (σ : L2.St) (us : List Value), Inv X pins σ H s → Vals xs us → wpAny (model X.prog X.w) X.A (call f us) (EP X pins σ Q) X.xe s
theorem cpr_self {X : Cx} {f : Value} : CallR X f (CPt X f) := fun pins s σ _ _ us _ I r h => h pins s σ us I r
theorem cp_of {X : Cx} {f : Value} {r : List V → Hp → VK → Prop} {xs : List V} {H : Hp} {Q : VK} (h : CallR X f r) (q : r xs H Q) : CPt X f xs H Q := fun pins s σ us I rv => h pins s σ H xs us Q I rv q
def OpG (X : Cx) (S : Sg) (f : Value → Value → Sem Value) (d1 d2 : D) (μ : Mem) (Q : QD) : Prop :=
  ∀ F N H x y, RelM S F N H μ → Rp S (vis N H (adr μ)) x d1 → Rp S (vis N H (adr μ)) y d2 → OPt X f x y H (EndE S F N Q)
def UnG (X : Cx) (S : Sg) (f : Value → Sem Value) (d1 : D) (μ : Mem) (Q : QD) : Prop :=
  ∀ F N H x, RelM S F N H μ → Rp S (vis N H (adr μ)) x d1 → UNt X f x H (EndE S F N Q)
def CallG (X : Cx) (S : Sg) (f : Value) (ds : List D) (μ : Mem) (Q : QD) : Prop :=
  ∀ F N H xs, RelM S F N H μ → RpA S (vis N H (adr μ)) xs ds → CPt X f xs H (EndE S F N Q)
theorem OpG.mono {X : Cx} {S : Sg} {f : Value → Value → Sem Value} {d1 d2 : D} {μ : Mem} {Q Q' : QD} (h : OpG X S f d1 d2 μ Q) (m : ∀ d μ', Q d μ' → Q' d μ') : OpG X S f d1 d2 μ Q' := fun F N H x y r rx ry pins s σ v u I rv ru =>
  thn (h F N H x y r rx ry pins s σ v u I rv ru) fun _ _ ⟨z, H', I', rz, d, μ', r', rd, q⟩ => ⟨z, H', I', rz, d, μ', r', rd, m _ _ q⟩
section
variable {X : Cx} {S : Sg} {a b c e : Expr} {es rest : List Expr} {Γ : Gm} {μ : Mem} {Q : QD} {T : Bool → Mem → Prop} {x : Str} {pos p : Pos} {d : D}
theorem ev_name {i : Nat} (hN : X.N[i]? = some x) (hv : Vis X.env.scope x) (hΓ : Γ[i]? = some (some d)) (k : Q d μ) (hd : (x == ("__debug__" : Str)) = false := by decide) (hcd : (x == ("__classdict__" : Str)) = false := by decide) : EvG X S (.Name x pos) Γ μ Q :=
  fun F N σ H r rs => let ⟨v, hv', rv⟩ := RelS.get rs hΓ; ex_of (pe_var hN hv hd hcd) ⟨v, hv', d, μ, r, rv, k⟩
theorem ev_int {i : Int} {j} (k : Q (.int i) μ) : EvG X S (.Constant (.int i) j pos) Γ μ Q := fun F N σ H r rs => ex_of pe_int ⟨_, μ, r, .int i, k⟩
theorem ev_bl {i : Bool} {j} (k : Q (.bl i) μ) : EvG X S (.Constant (.bool i) j pos) Γ μ Q := fun F N σ H r rs => ex_of pe_bl ⟨_, μ, r, .bl i, k⟩
theorem ev_str {i : Str} {j} (k : Q (.str i) μ) : EvG X S (.Constant (.str i) j pos) Γ μ Q := fun F N σ H r rs => ex_of pe_str ⟨_, μ, r, .str i, k⟩
theorem ev_globR {u : Addr} (hg : Gl X x) (hm : X.mg x = some (.ref u)) (k : Q (.ref u) μ) (hd : (x == ("__debug__" : Str)) = false := by decide) : EvG X S (.Name x pos) Γ μ Q :=
  fun F N σ H r rs => ex_of (pe_glob (v := .ref u) hg hm rfl hd) ⟨_, μ, r, .ref u, k⟩
theorem ev_bin {op : Operator} (h : EvG X S a Γ μ fun d1 μ1 => EvG X S b Γ μ1 fun d2 μ2 => OpG X S (binaryOp op) d1 d2 μ2 Q) : EvG X S (.BinOp a op b pos) Γ μ Q := by
  intro F N σ H r rs
  refine ex_of (pe_op opr_self pe_ex pe_ex) ?_
  refine h.use r rs fun x H1 d1 μ1 r1 rs1 rx hb => ?_
  refine hb.use r1 rs1 fun y H2 d2 μ2 r2 rs2 ry ho => ?_
  exact ho F N H2 x y (r2.weakF (r.ext.trans r1.ext)) (rx.ext r2.ext) ry
theorem ev_un {op : UnaryOp} (h : EvG X S a Γ μ fun d1 μ1 => UnG X S (unaryOp op) d1 μ1 Q) : EvG X S (.UnaryOp op a pos) Γ μ Q := by
  intro F N σ H r rs
  refine ex_of (pe_un unr_self pe_ex) ?_
  refine h.use r rs fun x H1 d1 μ1 r1 rs1 rx hb => ?_
  exact hb F N H1 x (r1.weakF r.ext) rx
theorem ev_cmp {op : CmpOp} (h : EvG X S a Γ μ fun d1 μ1 => EvG X S b Γ μ1 fun d2 μ2 => OpG X S (compareOp op) d1 d2 μ2 Q) (hm : behindInMarks op b = false := by first | exact nobehind _ (by decide) (by decide) | rfl) : EvG X S (.Compare a [op] [b] pos) Γ μ Q := by
  intro F N σ H r rs
  refine ex_of (pe_cmpR opr_self pe_ex pe_ex hm) ?_
  refine h.use r rs fun x H1 d1 μ1 r1 rs1 rx hb => ?_
  refine hb.use r1 rs1 fun y H2 d2 μ2 r2 rs2 ry ho => ?_
  exact ho F N H2 x y (r2.weakF (r.ext.trans r1.ext)) (rx.ext r2.ext) ry
abbrev QB (T : Bool → Mem → Prop) : QD := fun d μ' => ∃ b, d = .bl b ∧ T b μ'
theorem endT_of {F N H : Hp} {v : V} (h : EndE S F N (QB T) v H) : ∃ c, v = .bl c ∧ EndT S F N T c H := by
  obtain ⟨d, μ', r, rd, b, e, q⟩ := h
  subst e
  cases rd
  exact ⟨b, rfl, μ', r, q⟩
theorem et_cmp {op : CmpOp} (h : EvG X S a Γ μ fun d1 μ1 => EvG X S b Γ μ1 fun d2 μ2 => OpG X S (compareOp op) d1 d2 μ2 (QB T)) (hm : behindInMarks op b = false := by first | exact nobehind _ (by decide) (by decide) | rfl) : EvT X S (.Compare a [op] [b] pos) Γ μ T := by
  intro F N σ H r rs
  refine tx_of (pt_cmpR opr_self pe_ex pe_ex hm) ?_
  refine EXt.mono (h.use (P := fun v H1 => EXt X b σ H1 fun y H2 => OPt X (compareOp op) v y H2 (EndE S F N (QB T))) r rs fun x H1 d1 μ1 r1 rs1 rx hb => ?_) fun v H1 q => q.mono fun y H2 q2 => ?_
  · refine hb.use r1 rs1 fun y H2 d2 μ2 r2 rs2 ry ho => ?_
    exact ho F N H2 x y (r2.weakF (r.ext.trans r1.ext)) (rx.ext r2.ext) ry
  · intro pins s σ' v u I rx ry
    exact thn (q2 pins s σ' v u I rx ry) fun _ _ ⟨z, H', I', rz, q⟩ => ⟨z, H', I', rz, endT_of q⟩
theorem et_val (h : EvG X S e Γ μ (QB T)) (he : ∀ whole, isTrue e X.env whole = (do let v ← whole; standAt e.pos; holding [v] (truthy v)) := by intro _; rfl) : EvT X S e Γ μ T := by
  intro F N σ H r rs
  exact tx_of (pt_val pe_ex he) ((h F N σ H r rs).mono fun v H' q => endT_of q)
theorem et_not (h : EvT X S a Γ μ fun b μ' => T (!b) μ') : EvT X S (.UnaryOp .Not a pos) Γ μ T := by
  intro F N σ H r rs
  exact tx_of (pt_not pt_ex) ((h F N σ H r rs).mono fun v H' q => q)
theorem et_w (h : EvW X S e Γ μ T) : EvT X S e Γ μ T := fun F N σ H r rs => ⟨fun pins s I => h F N σ H r rs _ pins s I⟩
theorem ew_or1 (h : EvT X S a Γ μ T) : EvW X S (.BoolOp .Or [a] pos) Γ μ T := fun F N σ H r rs => wx_of (pw_or1 pt_ex) (h F N σ H r rs)
theorem ew_or (h : EvT X S a Γ μ fun c μ1 => (c = false → EvW X S (.BoolOp .Or (b :: rest) pos) Γ μ1 T) ∧ (c = true → T true μ1)) : EvW X S (.BoolOp .Or (a :: b :: rest) pos) Γ μ T := by
  intro F N σ H r rs
  refine wx_of (pw_or pt_ex pw_ex) (h.use r rs fun c H1 μ1 r1 rs1 q => ?_)
  cases c with
  | false => exact q.1 rfl F N σ H1 (r1.weakF r.ext) rs1
  | true => exact ⟨μ1, r1.weakF r.ext, q.2 rfl⟩
theorem ev_and1 (h : EvG X S a Γ μ Q) {op} : EvG X S (.BoolOp op [a] pos) Γ μ Q := fun F N σ H r rs => ex_of (pe_one pe_ex) (h F N σ H r rs)
theorem ev_and (h : EvG X S a Γ μ fun d μ1 => ∃ c, d = .bl c ∧ (c = true → EvG X S (.BoolOp .And (b :: rest) pos) Γ μ1 Q) ∧ (c = false → Q (.bl false) μ1)) : EvG X S (.BoolOp .And (a :: b :: rest) pos) Γ μ Q := by
  intro F N σ H r rs
  refine ex_of (pe_and pe_ex pe_ex) (h.use r rs fun v H1 d μ1 r1 rs1 rd q => ?_)
  obtain ⟨c, e, q1, q2⟩ := q
  subst e
  cases rd
  refine ⟨c, rfl, ?_⟩
  cases c with
  | true => exact q1 rfl F N σ H1 (r1.weakF r.ext) rs1
  | false => exact ⟨_, μ1, r1.weakF r.ext, .bl false, q2 rfl⟩
theorem ea_nil {Q : List D → Mem → Prop} (k : Q [] μ) : EvA X S [] Γ μ Q := fun F N σ H r rs => ax_of pa_nil ⟨[], μ, r, .nil, k⟩
theorem ea_cons {Q : List D → Mem → Prop} (h : EvG X S e Γ μ fun d μ1 => EvA X S es Γ μ1 fun ds μ2 => Q (d :: ds) μ2) (hs : starEach (e :: es) X.env = (false, eval e X.env) :: starEach es X.env := by rfl) : EvA X S (e :: es) Γ μ Q := by
  intro F N σ H r rs
  refine ax_of (pa_cons pe_ex pa_ex hs) (h.use r rs fun v H1 d μ1 r1 rs1 rd q => ?_)
  refine q.use r1 rs1 fun vs H2 ds μ2 r2 rs2 rds q2 => ?_
  exact ⟨d :: ds, μ2, r2.weakF (r.ext.trans r1.ext), .cons (rd.ext r2.ext) rds, q2⟩
theorem ev_tup {k} (h : EvA X S es Γ μ fun ds μ1 => ds.length ≤ 16777216 ∧ Q (.tup ds) μ1) : EvG X S (.Tuple es k pos) Γ μ Q := by
  intro F N σ H r rs
  refine ex_of (pe_tup pa_ex) (h.use r rs fun vs H1 ds μ1 r1 rs1 rd q => ?_)
  refine ⟨by rw [rd.length, sizeLine_eq]; exact q.1, fun p hp => ?_⟩
  exact ⟨_, μ1, (r1.weakF r.ext).alloc hp, .tup (SqU.of (alloc_at r1.toRelM0 hp)) (rd.ext (vis_new r1.toRelM0 hp)), q.2⟩
theorem ev_lst (h : EvA X S es Γ μ fun ds μ1 => ds.length ≤ 16777216 ∧ Q (.lst ds) μ1) : EvG X S (.List es pos) Γ μ Q := by
  intro F N σ H r rs
  refine ex_of (pe_lst pa_ex) (h.use r rs fun vs H1 ds μ1 r1 rs1 rd q => ?_)
  refine ⟨by rw [rd.length, sizeLine_eq]; exact q.1, fun p hp => ?_⟩
  exact ⟨_, μ1, (r1.weakF r.ext).alloc hp, .lst (alloc_at r1.toRelM0 hp) (rd.ext (vis_new r1.toRelM0 hp)), q.2⟩
theorem ev_lstM (h : EvA X S es Γ μ fun ds μ1 => ds.length ≤ 16777216 ∧ ∀ p, p ∉ adr μ1 → Q (.ref p) ((p, .lst ds) :: μ1)) : EvG X S (.List es pos) Γ μ Q := by
  intro F N σ H r rs
  refine ex_of (pe_lst pa_ex) (h.use r rs fun vs H1 ds μ1 r1 rs1 rd q => ?_)
  refine ⟨by rw [rd.length, sizeLine_eq]; exact q.1, fun p hp => ?_⟩
  exact ⟨_, _, (r1.weakF r.ext).allocM hp (.lst rd), .ref p, q.2 p (adr_new r1.toRelM0 hp)⟩
end
section
variable {X : Cx} {S : Sg} {μ : Mem} {Q : QD} {i j : Int} {x y : Str} {d e : D} {l l' : List D}
theorem og_addI (k : Q (.int (i + j)) μ) : OpG X S (binaryOp .Add) (.int i) (.int j) μ Q := fun F N H u v r ru rv => by cases ru; cases rv; exact op_of op_add ⟨i, j, rfl, rfl, _, μ, r, .int _, k⟩
theorem og_subI (k : Q (.int (i - j)) μ) : OpG X S (binaryOp .Sub) (.int i) (.int j) μ Q := fun F N H u v r ru rv => by cases ru; cases rv; exact op_of op_sub ⟨i, j, rfl, rfl, _, μ, r, .int _, k⟩
theorem og_mulI (c : CMul i j) (k : Q (.int (i * j)) μ) : OpG X S (binaryOp .Mult) (.int i) (.int j) μ Q := fun F N H u v r ru rv => by cases ru; cases rv; exact op_of op_mul ⟨i, j, rfl, rfl, c, _, μ, r, .int _, k⟩
theorem og_modI (c : 0 < j) (k : Q (.int (i % j)) μ) : OpG X S (binaryOp .Mod) (.int i) (.int j) μ Q := fun F N H u v r ru rv => by cases ru; cases rv; exact op_of op_mod ⟨i, j, rfl, rfl, c, _, μ, r, .int _, k⟩
theorem og_powI (c : CPow i j) (k : Q (.int (i ^ j.toNat)) μ) : OpG X S (binaryOp .Pow) (.int i) (.int j) μ Q := fun F N H u v r ru rv => by cases ru; cases rv; exact op_of op_pow ⟨i, j, rfl, rfl, c, _, μ, r, .int _, k⟩
theorem ug_neg (k : Q (.int (-i)) μ) : UnG X S (unaryOp .USub) (.int i) μ Q := fun F N H u r ru => by cases ru; exact un_of un_neg ⟨i, rfl, _, μ, r, .int _, k⟩
theorem og_addS (hz : x.length + y.length ≤ 16777216) (k : Q (.str (x ++ y)) μ) : OpG X S (binaryOp .Add) (.str x) (.str y) μ Q := fun F N H u v r ru rv => by cases ru; cases rv; exact op_of op_add_str ⟨x, y, rfl, rfl, by rw [sizeLine_eq]; exact hz, _, μ, r, .str _, k⟩
theorem og_gtI (k : Q (.bl (decide (j < i))) μ) : OpG X S (compareOp .Gt) (.int i) (.int j) μ Q := fun F N H u v r ru rv => by cases ru; cases rv; exact op_of op_gt ⟨i, j, rfl, rfl, _, μ, r, .bl _, k⟩
theorem og_geI (k : Q (.bl (decide (j ≤ i))) μ) : OpG X S (compareOp .GtE) (.int i) (.int j) μ Q := fun F N H u v r ru rv => by cases ru; cases rv; exact op_of op_ge ⟨i, j, rfl, rfl, _, μ, r, .bl _, k⟩
theorem og_eqI (k : Q (.bl (decide (i = j))) μ) : OpG X S (compareOp .Eq) (.int i) (.int j) μ Q := fun F N H u v r ru rv => by cases ru; cases rv; exact op_of op_eq ⟨rfl, _, μ, r, .bl _, by simpa using k⟩
def Rsv (μ : Mem) (d e : D) : Prop := d = e ∨ ∃ l, Drf μ d l ∧ e = .lst l
theorem Rsv.val {d : D} : Rsv μ d d := .inl rfl
theorem Rsv.mem {a : Addr} (h : (a, M.lst l) ∈ μ) : Rsv μ (.ref a) (.lst l) := .inr ⟨l, .ref h, rfl⟩
theorem Rsv.dp {n : Nat} {F N H : Hp} {d e : D} {v : V} (h : Rsv μ d e) (ho : D.ok n e = true) (r : RelM S F N H μ) (rv : Rp S (vis N H (adr μ)) v d) : Dp S.K H v (D.py e) := by
  rcases h with rfl | ⟨l, h, rfl⟩
  · exact (rv.ext vis_le).dp ho
  · obtain ⟨a, xs, rfl, ha, hs⟩ := h.at r.toRelM0 rv
    exact Rp.dp ho (.lst ha (hs.ext vis_le))
theorem og_eqD {n m : Nat} {d' e' : D} (hK : X.K = S.K) (hu : X.A.units + 65 < cLine) (h1 : Rsv μ d d') (h2 : Rsv μ e e') (o1 : D.ok n d' = true) (o2 : D.ok m e' = true) (n1 : n ≤ 60) (n2 : m ≤ 60) (k : Q (.bl (D.eqv d' e')) μ) : OpG X S (compareOp .Eq) d e μ Q := fun F N H u v r ru rv => by
  refine op_of (op_eqD (by omega)) ⟨_, _, ?_, ?_, D.shaped o1 n1, D.shaped o2 n2, _, μ, r, .bl _, k⟩
  · rw [hK]; exact h1.dp o1 r ru
  · rw [hK]; exact h2.dp o2 r rv
theorem og_neD {n m : Nat} {d' e' : D} (hK : X.K = S.K) (hu : X.A.units + 65 < cLine) (h1 : Rsv μ d d') (h2 : Rsv μ e e') (o1 : D.ok n d' = true) (o2 : D.ok m e' = true) (n1 : n ≤ 60) (n2 : m ≤ 60) (k : Q (.bl (!D.eqv d' e')) μ) : OpG X S (compareOp .NotEq) d e μ Q := fun F N H u v r ru rv => by
  refine op_of (op_neD (by omega)) ⟨_, _, ?_, ?_, D.shaped o1 n1, D.shaped o2 n2, _, μ, r, .bl _, k⟩
  · rw [hK]; exact h1.dp o1 r ru
  · rw [hK]; exact h2.dp o2 r rv
def D.inL (d : D) (l : List D) : Bool := l.any fun z => D.eqv z d
theorem any_py (d : D) : ∀ l : List D, ((D.pyA l).any fun z => PyData.eqv z (D.py d)) = D.inL d l
  | [] => rfl
  | z :: l => by
    have ih := any_py d l
    simp only [D.pyA, List.any_cons, D.inL, D.eqv] at ih ⊢
    rw [ih]
theorem og_inL {n : Nat} {d' : D} (hK : X.K = S.K) (hu : X.A.units + 65 < cLine) (h1 : Rsv μ d d') (h2 : Drf μ e l) (o1 : D.ok n d' = true) (o2 : D.okA n l = true) (n1 : n ≤ 50) (k : Q (.bl (D.inL d' l)) μ) : OpG X S (compareOp .In) d e μ Q := fun F N H u v r ru rv => by
  have o2' : D.ok (n + 1) (.lst l) = true := by simpa [D.ok] using o2
  have e2 := Rsv.dp (S := S) (e := .lst l) (.inr ⟨l, h2, rfl⟩) o2' r rv
  have s2 := D.shaped o2' (by omega)
  rw [D.py] at e2 s2
  refine op_of (op_inD hu) ⟨D.py d', D.pyA l, ?_, by rw [hK]; exact e2, D.shaped o1 (by omega), s2, _, μ, r, .bl _, ?_⟩
  · rw [hK]; exact h1.dp o1 r ru
  · rw [any_py]; exact k
theorem og_niL {n : Nat} {d' : D} (hK : X.K = S.K) (hu : X.A.units + 65 < cLine) (h1 : Rsv μ d d') (h2 : Drf μ e l) (o1 : D.ok n d' = true) (o2 : D.okA n l = true) (n1 : n ≤ 50) (k : Q (.bl (!D.inL d' l)) μ) : OpG X S (compareOp .NotIn) d e μ Q := fun F N H u v r ru rv => by
  have o2' : D.ok (n + 1) (.lst l) = true := by simpa [D.ok] using o2
  have e2 := Rsv.dp (S := S) (e := .lst l) (.inr ⟨l, h2, rfl⟩) o2' r rv
  have s2 := D.shaped o2' (by omega)
  rw [D.py] at e2 s2
  refine op_of (op_notInD hu) ⟨D.py d', D.pyA l, ?_, by rw [hK]; exact e2, D.shaped o1 (by omega), s2, _, μ, r, .bl _, ?_⟩
  · rw [hK]; exact h1.dp o1 r ru
  · rw [any_py]; exact k
end
end GL
namespace GL
open PySem L2 PySem.Spec PyProof.Rows
section
variable {X : Cx} {S : Sg} {a b c e o : Expr} {es rest : List Expr} {st : Stmt} {sts body orelse : List Stmt} {Γ : Gm} {μ : Mem} {Q : QD} {x : Str} {pos p : Pos} {d : D} {E : EG}
theorem bl_nil (k : E.nx Γ μ) : BlG X S [] Γ μ E := fun F N σ H r rs => bx_of pss_nil ⟨Γ, μ, r, rs, k⟩
theorem SXt.mono {D D' : Ends} {σ : L2.St} {H : Hp} (h : SXt X st D σ H) (h1 : ∀ σ H, D.nx σ H → D'.nx σ H) (h2 : ∀ v H, D.rt v H → D'.rt v H) (h3 : ∀ σ H, D.bk σ H → D'.bk σ H) (h4 : ∀ σ H, D.ct σ H → D'.ct σ H) : SXt X st D' σ H := ⟨fun pins s I =>
  thn (h pins s I) fun f s' q => by
    cases f with
    | next => obtain ⟨σ', H', I', q⟩ := q; exact ⟨σ', H', I', h1 _ _ q⟩
    | brk => obtain ⟨σ', H', I', q⟩ := q; exact ⟨σ', H', I', h3 _ _ q⟩
    | cont => obtain ⟨σ', H', I', q⟩ := q; exact ⟨σ', H', I', h4 _ _ q⟩
    | ret u => obtain ⟨v, σ', H', I', r, q⟩ := q; exact ⟨v, σ', H', I', r, h2 _ _ q⟩⟩
theorem bl_cons (h : StG X S st Γ μ { E with nx := fun Γ' μ' => BlG X S sts Γ' μ' E }) : BlG X S (st :: sts) Γ μ E := by
  intro F N σ H r rs
  refine bx_of (pss_cons ps_ex pss_ex) ?_
  refine SXt.mono (h F N σ H r rs) (fun σ' H' q => ?_) (fun _ _ q => q) (fun _ _ q => q) (fun _ _ q => q)
  obtain ⟨Γ', μ', r', rs', q⟩ := q
  exact q F N σ' H' r' rs'
theorem st_expr (h : EvG X S e Γ μ fun _ μ' => E.nx Γ μ') (hs : swapsWith e none pos.line X.env = pure false := by rfl) : StG X S (.Expr e pos) Γ μ E := by
  intro F N σ H r rs
  refine sx_of (ps_expr pe_ex hs) (h.use r rs fun v H' d μ' r' rs' _ q => ?_)
  exact ⟨Γ, μ', r'.weakF r.ext, rs', q⟩
theorem st_ret (h : EvG X S e Γ μ E.rt) : StG X S (.Return (some e) pos) Γ μ E := fun F N σ H r rs => sx_of (ps_ret pe_ex) (h F N σ H r rs)
theorem st_if (h : EvT X S c Γ μ fun t μ1 => (t = true → BlG X S body Γ μ1 E) ∧ (t = false → BlG X S orelse Γ μ1 E)) : StG X S (.If c body orelse pos) Γ μ E := by
  intro F N σ H r rs
  refine sx_of (ps_if pt_ex pss_ex pss_ex) (h.use r rs fun t H1 μ1 r1 rs1 q => ?_)
  cases t with
  | true => exact q.1 rfl F N σ H1 (r1.weakF r.ext) rs1
  | false => exact q.2 rfl F N σ H1 (r1.weakF r.ext) rs1
structure GXt (X : Cx) (tg : Expr) (v : V) (σ : L2.St) (H : Hp) (Q : L2.St → Hp → Prop) : Prop where
  run : ∀ (pins : List (Addr × Obj)) (s : Shared) (u : Value), Inv X pins σ H s → RelV v u → wpAny (model X.prog X.w) X.A (assign tg X.env u) (fun _ s' => ∃ σ' H', Inv X pins σ' H' s' ∧ Q σ' H') X.xe s
instance {X : Cx} {tg : Expr} {v : V} {σ : L2.St} {H : Hp} {Q : L2.St → Hp → Prop} : CoeFun (GXt X tg v σ H Q) fun _ => ∀ (pins : List (Addr × Obj)) (s : Shared) (u : Value), Inv X pins σ H s → RelV v u → wpAny (model X.prog X.w) X.A (assign tg X.env u) (fun _ s' => ∃ σ' H', Inv X pins σ' H' s' ∧ Q σ' H') X.xe s := ⟨GXt.run⟩
theorem pg_ex {tg : Expr} : PG X tg (GXt X tg) := ⟨fun pins s σ H v u Q I r h => h pins s u I r⟩
theorem gx_of {tg : Expr} {t : TG} {v : V} {σ : L2.St} {H : Hp} {Q : L2.St → Hp → Prop} (p : PG X tg t) (h : t v σ H Q) : GXt X tg v σ H Q := ⟨fun pins s u I r => p.run pins s σ H v u Q I r h⟩
theorem GXt.mono {tg : Expr} {v : V} {σ : L2.St} {H : Hp} {Q Q' : L2.St → Hp → Prop} (h : GXt X tg v σ H Q) (m : ∀ σ H, Q σ H → Q' σ H) : GXt X tg v σ H Q' := ⟨fun pins s u I r =>
  thn (h pins s u I r) fun _ _ ⟨σ', H', I', q⟩ => ⟨σ', H', I', m _ _ q⟩⟩
theorem wipe_at {σ : L2.St} {j : Nat} : ∀ {vs : List Nat}, (wipe σ vs)[j]? = if j ∈ vs then σ[j]?.map (fun _ => none) else σ[j]?
  | [] => by simp [wipe]
  | v :: vs => by
    have ih := wipe_at (σ := σ) (j := j) (vs := vs)
    have hl := wipe_length σ vs
    show ((wipe σ vs).set v none)[j]? = _
    rw [List.getElem?_set, hl]
    by_cases hv : v = j
    · subst hv
      rw [if_pos rfl, if_pos (List.mem_cons_self)]
      by_cases hlt : v < σ.length
      · rw [if_pos hlt, List.getElem?_eq_getElem hlt]
        rfl
      · rw [if_neg hlt, List.getElem?_eq_none (by omega)]
        rfl
    · rw [if_neg hv, ih]
      by_cases hj : j ∈ vs
      · rw [if_pos hj, if_pos (List.mem_cons_of_mem _ hj)]
      · rw [if_neg hj, if_neg (by simp only [List.mem_cons, not_or]; exact ⟨fun e => hv e.symm, hj⟩)]
theorem wipe_set {σ : L2.St} {i : Nat} {x : Option V} {vs : List Nat} (h : i ∈ vs) : wipe (σ.set i x) vs = wipe σ vs := by
  refine List.ext_getElem? fun j => ?_
  rw [wipe_at, wipe_at, List.getElem?_set]
  by_cases hj : j ∈ vs
  · rw [if_pos hj, if_pos hj]
    by_cases e : i = j
    · subst e
      rw [if_pos rfl]
      by_cases hlt : i < σ.length
      · rw [if_pos hlt, List.getElem?_eq_getElem hlt]
        rfl
      · rw [if_neg hlt, List.getElem?_eq_none (by omega)]
    · rw [if_neg e]
  · rw [if_neg hj, if_neg hj, if_neg (fun e : i = j => hj (e ▸ h))]
abbrev EndW (S : Sg) (F N : Hp) (vs : List Nat) (σ : L2.St) (P : Gm → Mem → Prop) : L2.St → Hp → Prop := fun σ' H' => wipe σ' vs = wipe σ vs ∧ ∃ Γ' μ', RelM S F N H' μ' ∧ RelS S (vis N H' (adr μ')) σ' Γ' ∧ P Γ' μ'
def TgG (X : Cx) (S : Sg) (vs : List Nat) (tg : Expr) (d : D) (Γ : Gm) (μ : Mem) (P : Gm → Mem → Prop) : Prop :=
  ∀ F N σ H v, RelM S F N H μ → RelS S (vis N H (adr μ)) σ Γ → Rp S (vis N H (adr μ)) v d → GXt X tg v σ H (EndW S F N vs σ P)
theorem tg_name {i : Nat} {vs : List Nat} {P : Gm → Mem → Prop} (hv : i ∈ vs) (hN : X.N.Nodup) (hi : X.N[i]? = some x) (hx : Loc X.env.scope x) (k : P (Γ.set i (some d)) μ) (hf : X.fn x = true ∨ X.env.scope.names.lookup x = some .local := by first | exact .inl rfl | exact .inr rfl | assumption) :
    TgG X S vs (.Name x pos) d Γ μ P := fun F N σ H v r rs rv => gx_of (pg_name hN hi hx hf) ⟨wipe_set hv, _, μ, r, RelS.set rv i rs, k⟩
def TgsG (X : Cx) (S : Sg) (ws : List Nat) (tgs : List Expr) (ds : List D) (Γ : Gm) (μ : Mem) (P : Gm → Mem → Prop) : Prop :=
  ∀ F N σ H vs, RelM S F N H μ → RelS S (vis N H (adr μ)) σ Γ → RpA S (vis N H (adr μ)) vs ds → ∃ t, PGs X tgs t ∧ t vs σ H (EndW S F N ws σ P)
theorem tgs_nil {ws : List Nat} {P : Gm → Mem → Prop} (k : P Γ μ) : TgsG X S ws [] [] Γ μ P := fun F N σ H vs r rs rv => by
  cases rv
  exact ⟨_, pgs_nil, rfl, rfl, Γ, μ, r, rs, k⟩
structure GsXt (X : Cx) (tgs : List Expr) (vs : List V) (σ : L2.St) (H : Hp) (Q : L2.St → Hp → Prop) : Prop where
  run : ∀ (pins : List (Addr × Obj)) (s : Shared) (us : List Value), Inv X pins σ H s → Vals vs us →
    wpAny (model X.prog X.w) X.A (assignInOrder ((assignEach tgs X.env).map (·.2)) us) (fun _ s' => ∃ σ' H', Inv X pins σ' H' s' ∧ Q σ' H') X.xe s
instance {X : Cx} {tgs : List Expr} {vs : List V} {σ : L2.St} {H : Hp} {Q : L2.St → Hp → Prop} : CoeFun (GsXt X tgs vs σ H Q) fun _ => ∀ (pins : List (Addr × Obj)) (s : Shared) (us : List Value), Inv X pins σ H s → Vals vs us →
    wpAny (model X.prog X.w) X.A (assignInOrder ((assignEach tgs X.env).map (·.2)) us) (fun _ s' => ∃ σ' H', Inv X pins σ' H' s' ∧ Q σ' H') X.xe s := ⟨GsXt.run⟩
theorem pgs_ex {tgs : List Expr} : PGs X tgs (GsXt X tgs) := ⟨fun pins s σ H vs us Q I r h => h pins s us I r⟩
theorem tgs_cons {ws : List Nat} {tg : Expr} {tgs : List Expr} {ds : List D} {P : Gm → Mem → Prop} (h : TgG X S ws tg d Γ μ fun Γ1 μ1 => TgsG X S ws tgs ds Γ1 μ1 P)
    (hs : (assignEach (tg :: tgs) X.env).map (·.2) = assign tg X.env :: (assignEach tgs X.env).map (·.2) := by rfl) : TgsG X S ws (tg :: tgs) (d :: ds) Γ μ P := fun F N σ H vs r rs rv => by
  cases rv with
  | @cons v vs _ _ h1 h2 =>
  refine ⟨_, pgs_cons pg_ex pgs_ex hs, v, vs, rfl, ?_⟩
  refine (h (vis N H (adr μ)) N σ H v r.top rs h1).mono fun σ1 H1 ⟨hw, Γ1, μ1, r1, rs1, q⟩ => ?_
  refine ⟨fun pins s us I rv' => ?_⟩
  obtain ⟨t, ht, q⟩ := q F N σ1 H1 vs (r1.weakF r.ext) rs1 (h2.ext r1.ext)
  exact thn (ht.run pins s σ1 H1 vs us _ I rv' q) fun _ _ ⟨σ2, H2, I2, hw2, q2⟩ => ⟨σ2, H2, I2, hw2.trans hw, q2⟩
theorem tg_tup {ws : List Nat} {tgs : List Expr} {k : Nat} {ds : List D} {n : Nat} {P : Gm → Mem → Prop} (hK : X.K = S.K) (hc : X.calm = true) (h : TgsG X S ws tgs ds Γ μ P) (hl : ds.length = n)
    (hn : (assignEach tgs X.env).length = n := by rfl) (hst : (assignEach tgs X.env).findIdx? (·.1) = none := by rfl) : TgG X S ws (.Tuple tgs k pos) (.tup ds) Γ μ P := fun F N σ H v r rs rv => by
  cases rv with
  | @tup a xs _ ha hs =>
  obtain ⟨t, ht, q⟩ := h F N σ H xs r rs hs
  exact gx_of (pg_tup hc ht hn hst) ⟨a, xs, rfl, by rw [hK]; exact vis_le.t ha.1, by rw [hs.length, hl], q⟩
theorem st_asg {tg : Expr} (h : EvG X S e Γ μ fun d μ1 => TgG X S (List.range 64) tg d Γ μ1 E.nx) (hs : swapsWithSole [tg] e pos.line X.env = pure false := by rfl) (hw : swappedStores [tg] e X.env = pure none := by rfl)
    (h1 : (assignEach [tg] X.env).map (·.2) = [assign tg X.env] := by rfl) : StG X S (.Assign [tg] e pos) Γ μ E := by
  intro F N σ H r rs
  refine sx_of (ps_asg pe_ex pg_ex hs hw h1) (h.use r rs fun v H' d μ' r' rs' rv q => ?_)
  exact (q F N σ H' v (r'.weakF r.ext) rs' rv).mono fun _ _ z => z.2
theorem st_set {i : Nat} {pos' : Pos} (hN : X.N.Nodup) (hi : X.N[i]? = some x) (hx : Loc X.env.scope x) (h : EvG X S e Γ μ fun d μ1 => E.nx (Γ.set i (some d)) μ1)
    (hs : swapsWith e (some (.Name x pos')) pos.line X.env = pure false := by rfl) (hf : X.fn x = true ∨ X.env.scope.names.lookup x = some .local := by first | exact .inl rfl | exact .inr rfl | assumption) : StG X S (.Assign [.Name x pos'] e pos) Γ μ E := by
  intro F N σ H r rs
  refine sx_of (ps_set hN hi hx pe_ex hs hf) (h.use r rs fun v H' d μ' r' rs' rv q => ?_)
  exact ⟨_, μ', r'.weakF r.ext, RelS.set rv i rs', q⟩
theorem set_self {α : Type} : ∀ {l : List α} {i : Nat} {v : α}, l[i]? = some v → l.set i v = l
  | [], _, _, h => by simp at h
  | _ :: _, 0, _, h => by
    simp at h
    subst h
    rfl
  | a :: l, i + 1, v, h => by
    have := set_self (l := l) (i := i) (v := v) (by simpa using h)
    show a :: l.set i v = a :: l
    rw [this]
theorem RelS.frz {Hv : Hp} {i : Nat} {d : D} {σ : L2.St} {v : V} (hv : σ[i]? = some (some v)) (r : Rp S Hv v d) : ∀ {Γ : Gm}, RelS S Hv σ Γ → RelS S Hv σ (Γ.set i (some d)) := fun {Γ} rs => by
  have := RelS.set r i rs
  rw [set_self hv] at this
  exact this
end
end GL
namespace GL
open PySem L2 PySem.Spec PyProof.Rows
def ItOk (S : Sg) (J : It) (Km : Mem → Prop) (ds : List D) (Fv : Hp) : Prop :=
  ∀ N i H2 μ2, RelM S Fv N H2 μ2 → Km μ2 → (ds.length ≤ i → J.stop i H2) ∧
    ∀ d, ds[i]? = some d → J.go i H2 ∧ ∀ x H', J.yld i H2 x H' → RelM S (vis N H2 (adr μ2)) N H' μ2 ∧ Rp S (vis N H' (adr μ2)) x d
abbrev RI := (Mem → Prop) → List D → Mem → Prop
def WkG (S : Sg) (wi : TI) (Γ : Gm) (μ : Mem) (R : RI) : Prop :=
  ∀ F N σ H, RelM S F N H μ → RelS S (vis N H (adr μ)) σ Γ → ∀ Rr : It → Hp → Prop,
    (∀ J H1 ds Km μ1, RelM S (vis N H (adr μ)) N H1 μ1 → RelS S (vis N H1 (adr μ1)) σ Γ → ItOk S J Km ds (vis N H1 (adr μ1)) → R Km ds μ1 → Rr J H1) → wi σ H Rr
def IterG (X : Cx) (S : Sg) (tg iter : Expr) (Γ : Gm) (μ : Mem) (R : RI) : Prop := ∃ wi, PI X tg iter wi ∧ WkG S wi Γ μ R
section
variable {X : Cx} {S : Sg} {tg iter : Expr} {body : List Stmt} {Γ : Gm} {μ : Mem} {pos : Pos} {E : EG}
theorem st_for (hp : PassesOwn (model X.prog X.w) X.A X.env X.xe) (hc : X.calm = true)
    (hi : IterG X S tg iter Γ μ fun Km ds μ1 => ∃ I : Nat → Gm → Mem → Prop, I 0 Γ μ1 ∧ (∀ i Γ' μ', I i Γ' μ' → Km μ') ∧
      (∀ i d Γ' μ', ds[i]? = some d → I i Γ' μ' → TgG X S (List.range 64) tg d Γ' μ' fun Γ2 μ2 => BlG X S body Γ2 μ2 { nx := I (i + 1), ct := I (i + 1), bk := E.nx, rt := E.rt }) ∧
      (∀ Γ' μ', I ds.length Γ' μ' → E.nx Γ' μ'))
    (hs : ∀ x, foldedSetIterable iter X.env x = pure x := by intro _; rfl) : StG X S (.For tg iter body [] pos) Γ μ E := by
  intro F N σ H r rs
  obtain ⟨wi, hpi, hw⟩ := hi
  refine sx_of (ps_for hp hc hpi pg_ex pss_ex hs) (hw F N σ H r rs _ fun J H1 ds Km μ1 r1 rs1 ok q => ?_)
  obtain ⟨I, i0, ik, it, ie⟩ := q
  have eF : Ex F (vis N H1 (adr μ1)) := r.ext.trans r1.ext
  refine ⟨fun i m σ' H' => m = ds.length - i ∧ i ≤ ds.length ∧ ∃ Γ' μ', RelM S (vis N H1 (adr μ1)) N H' μ' ∧ RelS S (vis N H' (adr μ')) σ' Γ' ∧ I i Γ' μ', ⟨_, rfl, Nat.zero_le _, Γ, μ1, r1.top, rs1, i0⟩, ?_⟩
  rintro i m σ' H' ⟨rfl, hi, Γ', μ', r', rs', hI⟩
  by_cases hlt : i < ds.length
  · obtain ⟨hgo, hy⟩ := (ok N i H' μ' r' (ik i Γ' μ' hI)).2 ds[i] (List.getElem?_eq_getElem hlt)
    refine .inr ⟨hgo, fun σ2 H2 => ∃ Γ2 μ2, RelM S (vis N H1 (adr μ1)) N H2 μ2 ∧ RelS S (vis N H2 (adr μ2)) σ2 Γ2 ∧ I (i + 1) Γ2 μ2, fun σ2 H2 ⟨Γ2, μ2, q⟩ => ⟨_, by omega, rfl, hlt, Γ2, μ2, q⟩, fun x H2 hx => ?_⟩
    obtain ⟨r2, rx⟩ := hy x H2 hx
    refine (it i _ Γ' μ' (List.getElem?_eq_getElem hlt) hI (vis N H1 (adr μ1)) N σ' H2 x (r2.weakF r'.ext) (RelS.ext r2.ext rs') rx).mono fun σ3 H3 ⟨_, Γ3, μ3, r3, rs3, hb⟩ => ?_
    refine ⟨fun pins s I0 => ?_⟩
    refine thn (hb (vis N H1 (adr μ1)) N σ3 H3 r3 rs3 pins s I0) fun f s' q => ?_
    cases f with
    | next => obtain ⟨σ4, H4, I4, q⟩ := q; exact ⟨σ4, H4, I4, q⟩
    | cont => obtain ⟨σ4, H4, I4, q⟩ := q; exact ⟨σ4, H4, I4, q⟩
    | brk =>
      obtain ⟨σ4, H4, I4, Γ4, μ4, r4, rs4, q⟩ := q
      exact ⟨σ4, H4, I4, Γ4, μ4, r4.weakF eF, rs4, q⟩
    | ret u =>
      obtain ⟨v, σ4, H4, I4, rv, d4, μ4, r4, rd4, q⟩ := q
      exact ⟨v, σ4, H4, I4, rv, d4, μ4, r4.weakF eF, rd4, q⟩
  · have e : i = ds.length := by omega
    subst e
    exact .inl ⟨(ok N _ H' μ' r' (ik _ Γ' μ' hI)).1 (Nat.le_refl _), Γ', μ', r'.weakF eF, rs', ie Γ' μ' hI⟩
def IVt (X : Cx) (tg : Expr) : V → Hp → (It → Hp → Prop) → Prop := fun x H R => ∀ (pins : List (Addr × Obj)) (s : Shared) (σ : L2.St) (v : Value), Inv X pins σ H s → RelV x v → wpAny (model X.prog X.w) X.A (pyIter v) (PIE X pins σ tg R) X.xe s
def IterV (X : Cx) (S : Sg) (tg : Expr) (d : D) (μ : Mem) (R : RI) : Prop :=
  ∀ F N H x, RelM S F N H μ → Rp S (vis N H (adr μ)) x d → ∀ Rr : It → Hp → Prop,
    (∀ J H1 ds Km μ1, RelM S (vis N H (adr μ)) N H1 μ1 → ItOk S J Km ds (vis N H1 (adr μ1)) → R Km ds μ1 → Rr J H1) → IVt X tg x H Rr
theorem ig_val {R : RI} (h : EvG X S iter Γ μ fun d μ1 => IterV X S tg d μ1 R) : IterG X S tg iter Γ μ R := by
  refine ⟨fun σ H Rr => EXt X iter σ H fun x H1 => IVt X tg x H1 Rr, ⟨fun pins s σ H Rr I h => ?_⟩, fun F N σ H r rs Rr k => ?_⟩
  · exact thn (h pins s I) fun v s1 ⟨x, H1, I1, rx, q⟩ => q pins s1 σ v I1 rx
  · refine h.use r rs fun v H1 d μ1 r1 rs1 rd q => ?_
    refine q F N H1 v (r1.weakF r.ext) rd Rr fun J H2 ds Km μ2 r2 ok qR => ?_
    exact k J H2 ds Km μ2 (r2.weakF r1.ext) (RelS.ext r2.ext rs1) ok qR
theorem yld_l {K : PySem.W.Frag} {a : Addr} {i : Nat} {H H' : Hp} {x : V} {xs : List V} (h : (Itl K a).yld i H x H') (hx : SqL K H a xs) : H' = H ∧ xs[i]? = some x := ⟨h.1, h.2 xs hx⟩
theorem yld_t {K : PySem.W.Frag} {a : Addr} {i : Nat} {H H' : Hp} {x : V} {xs : List V} (h : (Itt K a).yld i H x H') (hx : SqT K H a xs) : H' = H ∧ xs[i]? = some x := ⟨h.1, h.2 xs hx⟩
theorem itok_l {S : Sg} {Fv : Hp} {a : Addr} {xs : List V} {l : List D} (h : SqL S.K Fv a xs) (hs : RpA S Fv xs l) : ItOk S (Itl S.K a) (fun _ => True) l Fv := by
  intro N i H2 μ2 r2 _
  have h2 : SqL S.K H2 a xs := r2.le.l h
  refine ⟨fun hi => ⟨xs, h2, by rw [hs.length]; exact hi⟩, fun d hd => ?_⟩
  obtain ⟨v, hv, rv⟩ := hs.get hd
  refine ⟨⟨xs, v, h2, hv⟩, fun x H' hy => ?_⟩
  obtain ⟨rfl, hx⟩ := yld_l hy h2
  rw [hv] at hx
  cases hx
  exact ⟨r2.top, rv.ext r2.ext⟩
theorem itok_t {S : Sg} {Fv : Hp} {a : Addr} {xs : List V} {l : List D} (h : SqT S.K Fv a xs) (hs : RpA S Fv xs l) : ItOk S (Itt S.K a) (fun _ => True) l Fv := by
  intro N i H2 μ2 r2 _
  have h2 : SqT S.K H2 a xs := r2.le.t h
  refine ⟨fun hi => ⟨xs, h2, by rw [hs.length]; exact hi⟩, fun d hd => ?_⟩
  obtain ⟨v, hv, rv⟩ := hs.get hd
  refine ⟨⟨xs, v, h2, hv⟩, fun x H' hy => ?_⟩
  obtain ⟨rfl, hx⟩ := yld_t hy h2
  rw [hv] at hx
  cases hx
  exact ⟨r2.top, rv.ext r2.ext⟩
theorem itok_m {S : Sg} {Fv : Hp} {a : Addr} {l : List D} : ItOk S (Itl S.K a) (fun μ' => (a, M.lst l) ∈ μ') l Fv := by
  intro N i H2 μ2 r2 hm
  obtain ⟨o, e, rm⟩ := r2.find hm
  cases rm with
  | @lst _ xs hs =>
  have h2 : SqL S.K H2 a xs := SqL.of e
  refine ⟨fun hi => ⟨xs, h2, by rw [hs.length]; exact hi⟩, fun d hd => ?_⟩
  obtain ⟨v, hv, rv⟩ := hs.get hd
  refine ⟨⟨xs, v, h2, hv⟩, fun x H' hy => ?_⟩
  obtain ⟨rfl, hx⟩ := yld_l hy h2
  rw [hv] at hx
  cases hx
  exact ⟨r2.top, rv⟩
theorem iv_sql {H : Hp} {a : Addr} {xs : List V} {Rr : It → Hp → Prop} (h : SqL X.K H a xs) (q : Rr (Itl X.K a) H) : IVt X tg (.ref a) H Rr := by
  intro pins s σ v I rx
  cases rx
  obtain ⟨its, rv, p, hz⟩ := I.list h
  refine wpAny_pyIter_list p.isList ?_
  have hf := I.hok.fresh (Nat.le_refl _)
  refine ⟨_, [s.heap.objs.size], _, _, H, rfl, I.kept (t' := s.toks) (fun b o e => Heap.get?_push_of_some _ e), turn_list a _, ⟨_, Heap.get?_push_size _ rfl, rfl, rfl⟩, ?_, q⟩
  intro b hb
  rw [List.mem_singleton.mp hb]
  exact I.fpOk (Nat.le_refl _) hf
theorem iv_sqt {H : Hp} {a : Addr} {xs : List V} {Rr : It → Hp → Prop} (h : SqT X.K H a xs) (q : Rr (Itt X.K a) H) : IVt X tg (.ref a) H Rr := by
  intro pins s σ v I rx
  cases rx
  obtain ⟨its, rv, p, hz⟩ := I.tuple h
  refine wpAny_pyIter_tuple (show s.heap.IsTuple a its.toArray from p) ?_
  have hf := I.hok.fresh (Nat.le_refl _)
  refine ⟨_, [s.heap.objs.size], _, _, H, rfl, I.kept (t' := s.toks) (fun b o e => Heap.get?_push_of_some _ e), turn_tuple a _, ⟨_, Heap.get?_push_size _ rfl, rfl, rfl⟩, ?_, q⟩
  intro b hb
  rw [List.mem_singleton.mp hb]
  exact I.fpOk (Nat.le_refl _) hf
variable {R : RI} {d : D}
theorem iv_lst (hK : X.K = S.K) {l : List D} (k : R (fun _ => True) l μ) : IterV X S tg (.lst l) μ R := by
  intro F N H x r rx Rr kk
  cases rx with
  | @lst a xs _ h hs =>
  have h' : SqL S.K (vis N H (adr μ)) a xs := SqL.of h
  refine iv_sql (xs := xs) (by rw [hK]; exact vis_le.l h') ?_
  rw [hK]
  exact kk _ H l _ μ r.top (itok_l h' hs) k
theorem iv_tup (hK : X.K = S.K) {l : List D} (k : R (fun _ => True) l μ) : IterV X S tg (.tup l) μ R := by
  intro F N H x r rx Rr kk
  cases rx with
  | @tup a xs _ h hs =>
  refine iv_sqt (xs := xs) (by rw [hK]; exact vis_le.t h.1) ?_
  rw [hK]
  exact kk _ H l _ μ r.top (itok_t h.1 hs) k
theorem iv_mem (hK : X.K = S.K) {a : Addr} {l : List D} (hm : (a, M.lst l) ∈ μ) (k : R (fun μ' => (a, M.lst l) ∈ μ') l μ) : IterV X S tg (.ref a) μ R := by
  intro F N H x r rx Rr kk
  cases rx
  obtain ⟨o, e, rm⟩ := r.find hm
  cases rm with
  | @lst _ xs hs =>
  refine iv_sql (xs := xs) (SqL.of e) ?_
  rw [hK]
  exact kk _ H l _ μ r.top itok_m k
theorem iv_scr (hK : X.K = S.K) {ns : List Int} (k : R (fun _ => True) (ns.map D.int) μ) : IterV X S tg (.scr ns) μ R := by
  intro F N H x r rx Rr kk
  cases rx with
  | @scr a _ h =>
  refine iv_sql (by rw [hK]; exact vis_le.l h) ?_
  rw [hK]
  have hs : ∀ ns : List Int, RpA S (vis N H (adr μ)) (ns.map V.int) (ns.map D.int) := fun ns => by
    induction ns with
    | nil => exact .nil
    | cons n ns ih => exact .cons (.int n) ih
  exact kk _ H _ _ μ r.top (itok_l h (hs ns)) k
def rng (lo : Int) (n : Nat) : List D := (List.range n).map fun (i : Nat) => D.int (lo + (i : Int))
theorem rng_get {lo : Int} {n i : Nat} {d : D} (h : (rng lo n)[i]? = some d) : i < n ∧ d = .int (lo + i) := by
  unfold rng at h
  rw [List.getElem?_map] at h
  by_cases hi : i < n
  · rw [List.getElem?_range hi] at h
    simp at h
    exact ⟨hi, h.symm⟩
  · rw [List.getElem?_eq_none (by rw [List.length_range]; omega)] at h
    cases h
theorem rng_len {lo : Int} {n : Nat} : (rng lo n).length = n := by unfold rng; rw [List.length_map, List.length_range]
theorem itok_r {S : Sg} {Fv : Hp} {lo : Int} {n : Nat} : ItOk S (Itr lo n) (fun _ => True) (rng lo n) Fv := by
  intro N i H2 μ2 r2 _
  refine ⟨fun hi => by rw [rng_len] at hi; exact hi, fun d hd => ?_⟩
  obtain ⟨hi, rfl⟩ := rng_get hd
  refine ⟨hi, fun x H' hy => ?_⟩
  obtain ⟨rfl, rfl⟩ := hy
  exact ⟨r2.top, .int _⟩
theorem ig_range1 {a : Expr} {p : Pos} (hg : Gl X "range") (hm : X.mg "range" = none)
    (h : EvA X S [a] Γ μ fun ds μ1 => ∃ j : Int, ds = [.int j] ∧ (-(2 ^ 62) ≤ j ∧ j < 2 ^ 62) ∧ R (fun _ => True) (rng 0 j.toNat) μ1) (hs : starEach [a] X.env = [(false, eval a X.env)] := by rfl) :
    IterG X S tg (.Call (.Name "range" p) [a] [] pos) Γ μ R := by
  refine ⟨_, pi_range1 hg hm pa_ex hs, fun F N σ H r rs Rr k => ?_⟩
  refine h.use r rs fun vs H1 ds μ1 r1 rs1 rds q => ?_
  obtain ⟨j, rfl, ⟨j1, j2⟩, q⟩ := q
  cases rds with
  | cons h1 h2 =>
  cases h1
  cases h2
  exact ⟨j, rfl, j1, j2, k _ H1 _ _ μ1 r1 rs1 itok_r q⟩
end
end GL
namespace GL
open PySem L2 PySem.Spec PyProof.Rows
section
variable {S : Sg0} {F N H : Hp} {μ : Mem} {p : Addr} {o o' : HO}
theorem RelM0.hide (r : RelM0 S F N H μ) (hp : H p = none) (ho : ∀ xs, o ≠ .tup xs) : RelM0 S F (upd N p o) (upd H p o) μ ∧ vis (upd N p o) (upd H p o) (adr μ) = vis N H (adr μ) := by
  have hN := hid_new r hp
  have hA := adr_new r hp
  have ev : vis (upd N p o) (upd H p o) (adr μ) = vis N H (adr μ) := by
    funext b
    unfold vis
    by_cases hb : b = p
    · subst hb
      rw [if_pos (.inl (by rw [upd_same]; rfl)), hp]
      split <;> rfl
    · rw [upd_ne hb, upd_ne hb]
  refine ⟨⟨fun b u e => ?_, fun b hb => ?_, by rw [ev]; exact r.ext, r.nd, fun q hq => ?_, fun b xs e => ?_⟩, ev⟩
  rotate_left 3
  · by_cases hb : b = p
    · rw [hb, upd_same] at e
      exact ho xs (Option.some.inj e)
    · rw [upd_ne hb] at e
      exact r.tup b xs e
  · by_cases hb : b = p
    · subst hb
      rw [upd_same] at e ⊢
      exact e
    · rw [upd_ne hb] at e ⊢
      exact r.hid b u e
  · rw [upd_ne (fun e => hA (by rw [← e]; exact hb))]
    exact r.dis b hb
  · obtain ⟨u, e, m⟩ := r.mem q hq
    exact ⟨u, by rw [upd_ne (ne_of_none e hp)]; exact e, by rw [ev]; exact m⟩
theorem RelM0.rehide (r : RelM0 S F (upd N p o) H μ) (ho : ∀ xs, o' ≠ .tup xs) : RelM0 S F (upd N p o') (upd H p o') μ ∧ vis (upd N p o') (upd H p o') (adr μ) = vis (upd N p o) H (adr μ) := by
  have hA : p ∉ adr μ := fun h => by
    have := r.dis p h
    rw [upd_same] at this
    cases this
  have ev : vis (upd N p o') (upd H p o') (adr μ) = vis (upd N p o) H (adr μ) := by
    funext b
    unfold vis
    by_cases hb : b = p
    · subst hb
      rw [if_pos (.inl (by rw [upd_same]; rfl)), if_pos (.inl (by rw [upd_same]; rfl))]
    · rw [upd_ne hb, upd_ne hb, upd_ne hb]
  refine ⟨⟨fun b u e => ?_, fun b hb => ?_, by rw [ev]; exact r.ext, r.nd, fun q hq => ?_, fun b xs e => ?_⟩, ev⟩
  rotate_left 3
  · by_cases hb : b = p
    · rw [hb, upd_same] at e
      exact ho xs (Option.some.inj e)
    · rw [upd_ne hb] at e
      exact r.tup b xs (by rw [upd_ne hb]; exact e)
  · by_cases hb : b = p
    · subst hb
      rw [upd_same] at e ⊢
      exact e
    · rw [upd_ne hb] at e ⊢
      exact r.hid b u (by rw [upd_ne hb]; exact e)
  · have h1 := r.dis b hb
    have hne : b ≠ p := fun e => hA (by rw [← e]; exact hb)
    rw [upd_ne hne] at h1 ⊢
    exact h1
  · obtain ⟨u, e, m⟩ := r.mem q hq
    have hne : q.1 ≠ p := fun z => hA (by rw [← z]; exact List.mem_map_of_mem hq)
    exact ⟨u, by rw [upd_ne hne]; exact e, by rw [ev]; exact m⟩
end
section
variable {S : Sg} {F N H : Hp} {μ : Mem} {p : Addr} {o o' : HO}
theorem RelM.hide (r : RelM S F N H μ) (hp : H p = none) (ho : ∀ xs, o ≠ .tup xs := by intro _ h; cases h) : RelM S F (upd N p o) (upd H p o) μ ∧ vis (upd N p o) (upd H p o) (adr μ) = vis N H (adr μ) :=
  ⟨⟨(r.toRelM0.hide hp ho).1, iv_hid r.iv (hid_new r.toRelM0 hp)⟩, (r.toRelM0.hide hp ho).2⟩
theorem RelM.rehide (r : RelM S F (upd N p o) H μ) (i : S.iv F N) (hN : N p = none) (ho : ∀ xs, o' ≠ .tup xs := by intro _ h; cases h) : RelM S F (upd N p o') (upd H p o') μ ∧ vis (upd N p o') (upd H p o') (adr μ) = vis (upd N p o) H (adr μ) :=
  ⟨⟨(r.toRelM0.rehide ho).1, iv_hid i hN⟩, (r.toRelM0.rehide ho).2⟩
theorem RelM.unhide (r : RelM S F (upd N p o) H μ) (i : S.iv F N) (hN : N p = none) : RelM S F N H μ ∧ Ex (vis (upd N p o) H (adr μ)) (vis N H (adr μ)) ∧ vis N H (adr μ) p = some o :=
  ⟨⟨(r.toRelM0.unhide hN).1, i⟩, (r.toRelM0.unhide hN).2⟩
end
def wipeG (Γ : Gm) : List Nat → Gm
  | [] => Γ
  | v :: vs => (wipeG Γ vs).set v none
theorem RelS.setN {S : Sg} {Hv : Hp} : ∀ {σ : L2.St} {Γ : Gm} (i : Nat), RelS S Hv σ Γ → RelS S Hv (σ.set i none) (Γ.set i none)
  | _, _, _, .nil => .nil
  | _, _, 0, .cons _ t => .cons (fun d hd => by cases hd) t
  | _, _, i + 1, .cons h t => .cons h (RelS.setN i t)
theorem RelS.wipe {S : Sg} {Hv : Hp} {σ : L2.St} {Γ : Gm} (r : RelS S Hv σ Γ) : ∀ vs : List Nat, RelS S Hv (L2.wipe σ vs) (wipeG Γ vs)
  | [] => r
  | v :: vs => RelS.setN v (RelS.wipe r vs)
def TsXt (X : Cx) (ifs : List Expr) : TT := fun σ H Q => ∃ t Q0, PTs X ifs t ∧ t σ H Q0 ∧ ∀ b H', Q0 b H' → Q b H'
def TsG (X : Cx) (S : Sg) (ifs : List Expr) (Γ : Gm) (μ : Mem) (T : Bool → Mem → Prop) : Prop :=
  ∀ F N σ H, RelM S F N H μ → RelS S (vis N H (adr μ)) σ Γ → ∃ t, PTs X ifs t ∧ t σ H (EndT S F N T)
theorem ts_nil {X : Cx} {S : Sg} {Γ : Gm} {μ : Mem} {T : Bool → Mem → Prop} (k : T true μ) : TsG X S [] Γ μ T := fun F N σ H r rs => ⟨_, pts_nil, μ, r, k⟩
theorem ts_one {X : Cx} {S : Sg} {c : Expr} {Γ : Gm} {μ : Mem} {T : Bool → Mem → Prop} (h : EvT X S c Γ μ T) : TsG X S [c] Γ μ T := fun F N σ H r rs => ⟨_, pts_one pt_ex, h F N σ H r rs⟩
theorem pts_ex {X : Cx} {ifs : List Expr} : PTs X ifs (TsXt X ifs) := ⟨fun pins s σ H Q I h => by
  obtain ⟨t, Q0, ht, q, m⟩ := h
  exact thn (ht.run pins s σ H Q0 I q) fun b s' ⟨H', I', q'⟩ => ⟨H', I', m _ _ q'⟩⟩
structure Bk where
  s : Shared
  H : Hp
  C : Addr
  cl : List (Str × Addr)
  fp : List Addr
abbrev Bk.cx (k : Bk) (X : Cx) (scope : Scope) : Cx := X.blk k.s k.H scope (compEnvC scope k.cl k.C X.env) k.fp
def LcG (X : Cx) (S : Sg) (tg elt : Expr) (ifs : List Expr) (scope : Scope) (vs : List Nat) (Γ : Gm) (Km : Mem → Prop) (ds : List D) (μ1 : Mem) (Q : List D → Mem → Prop) : Prop :=
  ∃ I : Nat → List D → Mem → Prop, I 0 [] μ1 ∧ (∀ i acc μ', I i acc μ' → Km μ') ∧
    (∀ i d acc μ', ds[i]? = some d → I i acc μ' → ∀ k : Bk,
      TgG (k.cx X scope) S vs tg d (wipeG Γ vs) μ' fun Γ2 μ2 => ∀ k : Bk, TsG (k.cx X scope) S ifs Γ2 μ2 fun b μ3 =>
          (b = true → ∀ k : Bk, EvG (k.cx X scope) S elt Γ2 μ3 fun y μ4 => acc.length < 16777216 ∧ I (i + 1) (acc ++ [y]) μ4) ∧ (b = false → I (i + 1) acc μ3)) ∧
    (∀ acc μ', I ds.length acc μ' → Q acc μ')
def lcT (X : Cx) (scope : Scope) (ifs : List Expr) : TT := fun σ H Q => ∀ k : Bk, TsXt (k.cx X scope) ifs σ H Q
def lcE (X : Cx) (scope : Scope) (elt : Expr) : TE := fun σ H Q => ∀ k : Bk, EXt (k.cx X scope) elt σ H Q
def lcT' (X : Cx) (scope : Scope) (tg : Expr) : TG := fun v σ H Q => ∀ k : Bk, GXt (k.cx X scope) tg v σ H Q
section
variable {X : Cx} {S : Sg} {tg iter elt : Expr} {ifs : List Expr} {scope : Scope} {own : List (Str × Nat)} {Γ : Gm} {μ : Mem} {pos : Pos}
theorem lc_sem {Qv : VK} {F N H : Hp} {σ : L2.St} {wi : TI} {vs : List Nat} {Q : List D → Mem → Prop}
    (hw : WkG S wi Γ μ fun Km ds μ1 => LcG X S tg elt ifs scope vs Γ Km ds μ1 Q)
    (r : RelM S F N H μ) (rs : RelS S (vis N H (adr μ)) σ Γ) (k : ∀ p H' acc μ', RelM S (vis N H (adr μ)) N H' μ' → RelS S (vis N H' (adr μ')) σ Γ → Rp S (vis N H' (adr μ')) (.ref p) (.lst acc) → Q acc μ' → Qv (.ref p) H') :
    tLc wi (lcT' X scope tg) (lcT X scope ifs) (lcE X scope elt) vs σ H Qv := by
  refine hw F N σ H r rs _ fun J H1 ds Km μ1 r1 rs1 ok q => ?_
  obtain ⟨I, i0, ik, it, ie⟩ := q
  intro p hp
  have hNp : N p = none := hid_new r1.toRelM0 hp
  have ww : wipe (wipe σ vs) vs = wipe σ vs := List.ext_getElem? fun j => by
    rw [wipe_at]
    by_cases hj : j ∈ vs
    · rw [if_pos hj, wipe_at, if_pos hj]
      cases σ[j]? <;> rfl
    · rw [if_neg hj]
  refine ⟨fun i m H' => m = ds.length - i ∧ i ≤ ds.length ∧ ∃ xs acc μ', RelM S (vis N H1 (adr μ1)) (upd N p (.lst xs)) H' μ' ∧ RpA S (vis (upd N p (.lst xs)) H' (adr μ')) xs acc ∧ I i acc μ', ⟨_, rfl, Nat.zero_le _, [], [], μ1, (r1.top.hide hp).1, .nil, i0⟩, ?_⟩
  rintro i m H' ⟨rfl, hi, xs, acc, μ', r', ra, hI⟩
  by_cases hlt : i < ds.length
  · have hd : ds[i]? = some ds[i] := List.getElem?_eq_getElem hlt
    obtain ⟨hgo, hy⟩ := (ok _ i H' μ' r' (ik i acc μ' hI)).2 ds[i] hd
    refine .inr ⟨hgo, fun H2 => ∃ xs acc μ2, RelM S (vis N H1 (adr μ1)) (upd N p (.lst xs)) H2 μ2 ∧ RpA S (vis (upd N p (.lst xs)) H2 (adr μ2)) xs acc ∧ I (i + 1) acc μ2, fun H2 q => ⟨_, by omega, rfl, hlt, q⟩, fun x H2 hx => ?_⟩
    obtain ⟨r2, rx⟩ := hy x H2 hx
    intro kb
    have rw2 : RelS S (vis (upd N p (.lst xs)) H2 (adr μ')) (wipe σ vs) (wipeG Γ vs) := RelS.ext (r'.ext.trans r2.ext) (RelS.wipe rs1 vs)
    refine (it i _ acc μ' hd hI kb _ _ (wipe σ vs) H2 x r2 rw2 rx).mono fun σ3 H3 ⟨hws, Γ3, μ3, r3, rs3, hb⟩ => ⟨by rw [hws, ww], ?_⟩
    intro kt
    obtain ⟨t, ht, qt⟩ := hb kt _ _ σ3 H3 r3.top rs3
    refine ⟨t, _, ht, qt, fun b H4 q4 => ?_⟩
    obtain ⟨μ4, r4, q5, q6⟩ := q4
    have ra4 : RpA S (vis (upd N p (.lst xs)) H4 (adr μ4)) xs acc := ra.ext (r3.ext.trans r4.ext)
    cases b with
    | false => exact ⟨xs, acc, μ4, r4.weakF (r'.ext.trans r3.ext), ra4, q6 rfl⟩
    | true =>
      rw [if_pos rfl]
      intro ke
      refine (q5 rfl ke).use r4 (RelS.ext r4.ext rs3) fun y H5 dy μ5 r5 rs5 ry q7 => ?_
      have hz : xs.length = acc.length := ra.length
      refine ⟨xs, r5.hid p _ upd_same, by rw [sizeLine_eq, hz]; exact q7.1, xs ++ [y], acc ++ [dy], μ5, ?_⟩
      obtain ⟨r6, ev⟩ := (r5.weakF ((r'.ext.trans r3.ext).trans r4.ext)).rehide r1.top.iv hNp (o' := .lst (xs ++ [y]))
      refine ⟨r6, ?_, q7.2⟩
      rw [ev]
      exact (ra4.ext r5.ext).append (.cons ry .nil)
  · have e : i = ds.length := by omega
    subst e
    obtain ⟨u1, u2, u3⟩ := r'.unhide r1.top.iv hNp
    refine .inl ⟨(ok _ _ H' μ' r' (ik _ acc μ' hI)).1 (Nat.le_refl _), k p H' acc μ' (u1.weakF r1.ext) (RelS.ext (r'.ext.trans u2) rs1) (.lst u3 (ra.ext u2)) (ie acc μ' hI)⟩
theorem ev_lc {Q : QD} {vs : List Nat} (hc : X.calm = true) (hN : X.N.Nodup) (ok : BlkOk X.N X.env.scope scope own) (hvs : own.map (·.2) = vs) (hi : IterG X S tg iter Γ μ fun Km ds μ1 => LcG X S tg elt ifs scope vs Γ Km ds μ1 fun acc μ' => Q (.lst acc) μ')
    (hs : ∀ x, foldedSetIterable iter X.env x = pure x := by intro _; rfl) : EvG X S (.ListComp elt [⟨tg, iter, ifs, 0⟩] scope pos) Γ μ Q := by
  intro F N σ H r rs
  obtain ⟨wi, hpi, hw⟩ := hi
  subst hvs
  refine ex_of (pe_lc hc hN hpi ok (g := lcT' X scope tg) (tt := lcT X scope ifs) (te := lcE X scope elt) (fun s H C cl fp => ⟨fun pins s' σ H' v u Q' I rv h => (h ⟨s, H, C, cl, fp⟩) pins s' u I rv⟩) (fun s H C cl fp => ⟨fun pins s' σ H' Q' I h => pts_ex.run pins s' σ H' Q' I (h ⟨s, H, C, cl, fp⟩)⟩) (fun s H C cl fp => ⟨fun pins s' σ H' Q' I h => (h ⟨s, H, C, cl, fp⟩) pins s' I⟩) hs) ?_
  exact lc_sem hw r rs fun p H' acc μ' r' _ rp q => ⟨_, μ', r'.weakF r.ext, rp, q⟩
theorem st_setLc {E : EG} {i : Nat} {y : Str} {py spos : Pos} {vs : List Nat} (hc : X.calm = true) (hN : X.N.Nodup) (hy : X.N[i]? = some y) (hyl : X.env.scope.names.lookup y = some .local)
    (hsw : swapsWith (.ListComp elt [⟨tg, iter, ifs, 0⟩] scope pos) (some (.Name y py)) spos.line X.env = pure true) (ok : BlkOk X.N X.env.scope scope own) (hvs : own.map (·.2) = vs)
    (hi : IterG X S tg iter Γ μ fun Km ds μ1 => LcG X S tg elt ifs scope vs Γ Km ds μ1 fun acc μ' => E.nx (Γ.set i (some (.lst acc))) μ') (hs : ∀ x, foldedSetIterable iter X.env x = pure x := by intro _; rfl) :
    StG X S (.Assign [.Name y py] (.ListComp elt [⟨tg, iter, ifs, 0⟩] scope pos) spos) Γ μ E := by
  intro F N σ H r rs
  obtain ⟨wi, hpi, hw⟩ := hi
  subst hvs
  refine sx_of (ps_setLc hc hN hy hyl hsw hpi ok (g := lcT' X scope tg) (tt := lcT X scope ifs) (te := lcE X scope elt) (fun s H C cl fp => ⟨fun pins s' σ H' v u Q' I rv h => (h ⟨s, H, C, cl, fp⟩) pins s' u I rv⟩) (fun s H C cl fp => ⟨fun pins s' σ H' Q' I h => pts_ex.run pins s' σ H' Q' I (h ⟨s, H, C, cl, fp⟩)⟩) (fun s H C cl fp => ⟨fun pins s' σ H' Q' I h => (h ⟨s, H, C, cl, fp⟩) pins s' I⟩) hs) ?_
  exact lc_sem hw r rs fun p H' acc μ' r' rs' rp q => ⟨_, μ', r'.weakF r.ext, RelS.set rp i rs', q⟩
end
end GL
namespace GL
open PySem L2 PySem.Spec PyProof.Rows
section
variable {X : Cx} {S : Sg} {a b e o : Expr} {es : List Expr} {Γ : Gm} {μ : Mem} {Q : QD} {x : Str} {pos p apos : Pos} {d : D}
theorem ev_callB {id : String} (hg : Gl X x) (hm : X.mg x = none) (hv : bootBuiltins x = some (.builtin id)) (h : EvA X S (e :: es) Γ μ fun ds μ1 => CallG X S (.builtin id) ds μ1 Q) (hn : x ≠ "__name__" := by decide) (hdb : (x == ("__debug__" : Str)) = false := by decide)
    (he : starEach (e :: es) X.env = (false, eval e X.env) :: starEach es X.env := by rfl) (hpl : (backTo pos (starEach es X.env)).any (·.1) = false := by rfl) : EvG X S (.Call (.Name x p) (e :: es) [] pos) Γ μ Q := by
  intro F N σ H r rs
  refine ex_of (pe_callB cpr_self hg hm hv pa_ex hn hdb he hpl) (h.use r rs fun vs H1 ds μ1 r1 rs1 rds q => ?_)
  exact q F N H1 vs (r1.weakF r.ext) rds
theorem ev_callTy {T : String} (hg : Gl X x) (hm : X.mg x = none) (hv : bootBuiltins x = some (.type T)) (h : EvA X S (e :: es) Γ μ fun ds μ1 => CallG X S (.type T) ds μ1 Q) (hn : x ≠ "__name__" := by decide) (hdb : (x == ("__debug__" : Str)) = false := by decide)
    (he : starEach (e :: es) X.env = (false, eval e X.env) :: starEach es X.env := by rfl) (hpl : (backTo pos (starEach es X.env)).any (·.1) = false := by rfl) : EvG X S (.Call (.Name x p) (e :: es) [] pos) Γ μ Q := by
  intro F N σ H r rs
  refine ex_of (pe_callTy cpr_self hg hm hv pa_ex hn hdb he hpl) (h.use r rs fun vs H1 ds μ1 r1 rs1 rds q => ?_)
  exact q F N H1 vs (r1.weakF r.ext) rds
theorem RpA.one {S : Sg} {H : Hp} {vs : List V} {d : D} (h : RpA S H vs [d]) : ∃ v, vs = [v] ∧ Rp S H v d := by
  cases h with
  | cons h t =>
  cases t
  exact ⟨_, rfl, h⟩
theorem RpA.two {S : Sg} {H : Hp} {vs : List V} {d e : D} (h : RpA S H vs [d, e]) : ∃ v w, vs = [v, w] ∧ Rp S H v d ∧ Rp S H w e := by
  cases h with
  | cons h t =>
  obtain ⟨w, rfl, r⟩ := t.one
  exact ⟨_, _, rfl, h, r⟩
theorem sq_at {F N H : Hp} {l : List D} {v : V} (hK : X.K = S.K) (h : DrfT μ d l) (r : RelM S F N H μ) (rv : Rp S (vis N H (adr μ)) v d) : ∃ a xs, v = .ref a ∧ (SqL X.K H a xs ∨ SqT X.K H a xs) ∧ RpA S (vis N H (adr μ)) xs l := by
  cases h with
  | l h =>
    obtain ⟨a, xs, rfl, ha, hs⟩ := h.at r.toRelM0 rv
    exact ⟨a, xs, rfl, .inl (SqL.of ha), hs⟩
  | t l =>
    cases rv with
    | @tup a xs _ ha hs => exact ⟨a, xs, rfl, .inr (by rw [hK]; exact vis_le.t ha.1), hs⟩
theorem cg_len {l : List D} (hK : X.K = S.K) (h : DrfT μ d l) (k : Q (.int (l.length : Int)) μ) : CallG X S (.builtin "len") [d] μ Q := fun F N H xs r rq => by
  obtain ⟨v, rfl, rv⟩ := rq.one
  obtain ⟨a, ys, rfl, hq, hs⟩ := sq_at hK h r rv
  exact cp_of call_len_seq ⟨a, ys, rfl, hq, _, μ, r, by rw [hs.length]; exact .int _, k⟩
theorem cg_lenS {z : Str} (hz : z.length ≤ 16777216) (k : Q (.int (z.length : Int)) μ) : CallG X S (.builtin "len") [.str z] μ Q := fun F N H xs r rq => by
  obtain ⟨v, rfl, rv⟩ := rq.one
  cases rv
  exact cp_of call_len_str ⟨z, rfl, by rw [sizeLine_eq]; exact hz, _, μ, r, .int _, k⟩
theorem cg_lenScr {ns : List Int} (hK : X.K = S.K) (k : Q (.int (ns.length : Int)) μ) : CallG X S (.builtin "len") [.scr ns] μ Q := fun F N H xs r rq => by
  obtain ⟨v, rfl, rv⟩ := rq.one
  cases rv with
  | scr h =>
  exact cp_of call_len_seq ⟨_, _, rfl, .inl (by rw [hK]; exact vis_le.l h), _, μ, r, by rw [List.length_map]; exact .int _, k⟩
theorem cg_list {l : List D} (hK : X.K = S.K) (h : DrfT μ d l) (k : Q (.lst l) μ) : CallG X S (.type "list") [d] μ Q := fun F N H xs r rq => by
  obtain ⟨v, rfl, rv⟩ := rq.one
  obtain ⟨a, ys, rfl, hq, hs⟩ := sq_at hK h r rv
  refine cp_of call_list_of ⟨a, ys, rfl, hq, fun p hp => ?_⟩
  exact ⟨_, μ, r.alloc hp, .lst (alloc_at r.toRelM0 hp) (hs.ext (vis_new r.toRelM0 hp)), k⟩
theorem cg_tuple {l : List D} (hK : X.K = S.K) (h : DrfT μ d l) (k : Q (.tup l) μ) : CallG X S (.type "tuple") [d] μ Q := fun F N H xs r rq => by
  obtain ⟨v, rfl, rv⟩ := rq.one
  cases h with
  | l h =>
    obtain ⟨a, ys, rfl, ha, hs⟩ := h.at r.toRelM0 rv
    refine cp_of call_tuple_of ⟨a, ys, rfl, .inl ⟨SqL.of ha, fun p hp => ?_⟩⟩
    exact ⟨_, μ, r.alloc hp, .tup (SqU.of (alloc_at r.toRelM0 hp)) (hs.ext (vis_new r.toRelM0 hp)), k⟩
  | t l =>
    cases rv with
    | @tup a ys _ ha hs => exact cp_of call_tuple_of ⟨a, ys, rfl, .inr ⟨by rw [hK]; exact vis_le.t ha.1, _, μ, r, .tup ha hs, k⟩⟩
theorem cg_int {i : Int} (k : Q (.int i) μ) : CallG X S (.type "int") [.int i] μ Q := fun F N H xs r rq => by
  obtain ⟨v, rfl, rv⟩ := rq.one
  cases rv
  exact cp_of call_int1 (.inl ⟨i, rfl, _, μ, r, .int _, k⟩)
structure IsC (K : PySem.W.Frag) (C : Addr) : Prop where
  cl : Cls K C
  ha : PySem.W.findIn K (.ref C) "__class__" = some (some (.builtin "object.__class__"))
  hn : PySem.W.specialIn K (.builtin "object.__class__") "__get__" = some (some (.builtin "getset_descriptor.__get__"))
  htk : PySem.W.takesIn K (.builtin "object.__class__") = some true
  hm : PySem.W.mroIn K C (.type "object") = some true
inductive TyD (S : Sg0) (μ : Mem) : D → Value → Prop
  | non : TyD S μ .non (.type "NoneType")
  | bl (b : Bool) : TyD S μ (.bl b) (.type "bool")
  | int (i : Int) : TyD S μ (.int i) (.type "int")
  | str (x : Str) : TyD S μ (.str x) (.type "str")
  | lst {d : D} {l : List D} : Drf μ d l → TyD S μ d (.type "list")
  | tup (l : List D) : TyD S μ (.tup l) (.type "tuple")
  | obj {c : Nat} {l : List D} : IsC S.K (S.cls c) → TyD S μ (.obj c l) (.ref (S.cls c))
  | ins {a C : Addr} {fs : List (Str × D)} : IsC S.K C → (a, M.ins C fs) ∈ μ → TyD S μ (.ref a) (.ref C)
theorem TyD.at {S : Sg0} {F N H : Hp} {v : V} {t : Value} (h : TyD S μ d t) (r : RelM0 S F N H μ) (rv : Rp S (vis N H (adr μ)) v d) : TyX S.K H v t := by
  cases h with
  | non => cases rv; exact .base .non
  | bl => cases rv; exact .base (.bl _)
  | int => cases rv; exact .base (.int _)
  | str => cases rv; exact .base (.str _)
  | lst h =>
    obtain ⟨a, xs, rfl, ha, _⟩ := h.at r rv
    exact .base (.lst ha)
  | tup =>
    cases rv with
    | @tup a xs _ ha hs =>
    rcases vis_le.t ha.1 with ha | ⟨o, its, n, ha, hc, _⟩
    · rcases ha with ha | ⟨o, ha⟩
      · exact .base (.tup ha)
      · exact .fTuple ha
    · exact .kTuple ha hc
  | obj c =>
    cases rv with
    | obj ha _ _ => exact .base (.ins (vis_le _ _ ha) c.cl c.ha c.hn c.htk c.hm)
  | ins c hm =>
    cases rv
    obtain ⟨o, e, rm⟩ := r.find hm
    cases rm with
    | ins h => exact .base (.ins e c.cl c.ha c.hn c.htk c.hm)
theorem cg_isi {C : Addr} {t : Value} {b : Bool} (hK : X.K = S.K) (ty : TyD S μ d t) (e : PySem.W.kitOne S.K t (.ref C) = some b) (k : Q (.bl b) μ) : CallG X S (.builtin "isinstance") [d, .ref C] μ Q := fun F N H xs r rq => by
  obtain ⟨v, w, rfl, rv, rw'⟩ := rq.two
  cases rw'
  exact cp_of call_isi ⟨v, .ref C, t, .ref C, b, rfl, .own C, by rw [hK]; exact ty.at r.toRelM0 rv, by rw [hK]; exact e, _, μ, r, .bl _, k⟩
def IXt (X : Cx) : R2 := fun x y H Q => ∃ r : R2, IxR X r ∧ ∃ Q0 : VK, r x y H Q0 ∧ ∀ v H', Q0 v H' → Q v H'
theorem ixr_self : IxR X (IXt X) := by
  intro va sl pins s σ H x y v u Q I rx ry h hs
  obtain ⟨r, hr, Q0, q, m⟩ := h
  exact thn (hr va sl pins s σ H x y v u Q0 I rx ry q hs) fun _ _ ⟨z, H', I', rz, q⟩ => ⟨z, H', I', rz, m _ _ q⟩
def IxG (X : Cx) (S : Sg) (d1 d2 : D) (μ : Mem) (Q : QD) : Prop :=
  ∀ F N H x y, RelM S F N H μ → Rp S (vis N H (adr μ)) x d1 → Rp S (vis N H (adr μ)) y d2 → IXt X x y H (EndE S F N Q)
theorem ev_ix (hs : PlainIx b) (h : EvG X S a Γ μ fun d1 μ1 => EvG X S b Γ μ1 fun d2 μ2 => IxG X S d1 d2 μ2 Q) : EvG X S (.Subscript a b pos) Γ μ Q := by
  intro F N σ H r rs
  refine ex_of (pe_ix ixr_self pe_ex pe_ex hs) ?_
  refine h.use r rs fun x H1 d1 μ1 r1 rs1 rx hb => ?_
  refine hb.use r1 rs1 fun y H2 d2 μ2 r2 rs2 ry ho => ?_
  exact ho F N H2 x y (r2.weakF (r.ext.trans r1.ext)) (rx.ext r2.ext) ry
theorem RpA.atI {S : Sg} {Hv : Hp} {vs : List V} {ds : List D} {i : Int} {d : D} (r : RpA S Hv vs ds) (h : L2.atI ds i = some d) : ∃ v, L2.atI vs i = some v ∧ Rp S Hv v d := by
  unfold L2.atI at h ⊢
  rw [r.length]
  cases e : ixN ds.length i with
  | none => rw [e] at h; cases h
  | some j =>
    rw [e] at h
    exact r.get h
theorem ig_l {l : List D} {i : Int} {y : D} (h : Drf μ d l) (hi : atI l i = some y) (k : Q y μ) : IxG X S d (.int i) μ Q := fun F N H u v r ru rv => by
  cases rv
  obtain ⟨a, xs, rfl, ha, hs⟩ := h.at r.toRelM0 ru
  obtain ⟨w, hw, rw'⟩ := hs.atI hi
  exact ⟨_, ix_list, EndE S F N Q, ⟨a, xs, i, w, rfl, rfl, SqL.of ha, hw, y, μ, r, rw', k⟩, fun _ _ q => q⟩
theorem ig_t {l : List D} {i : Int} {y : D} (hK : X.K = S.K) (hi : atI l i = some y) (k : Q y μ) : IxG X S (.tup l) (.int i) μ Q := fun F N H u v r ru rv => by
  cases rv
  cases ru with
  | @tup a xs _ ha hs =>
  obtain ⟨w, hw, rw'⟩ := hs.atI hi
  exact ⟨_, ix_tup, EndE S F N Q, ⟨a, xs, i, w, rfl, rfl, by rw [hK]; exact vis_le.t ha.1, hw, y, μ, r, rw', k⟩, fun _ _ q => q⟩
theorem ig_s {z : Str} {i : Int} {c : Nat} (hz : z.length ≤ 16777216) (hi : atI z.cps.toList i = some c) (k : Q (.str ⟨#[c]⟩) μ) : IxG X S (.str z) (.int i) μ Q := fun F N H u v r ru rv => by
  cases rv
  cases ru
  exact ⟨_, ix_str, EndE S F N Q, ⟨z, i, c, rfl, rfl, by rw [sizeLine_eq]; exact hz, hi, _, μ, r, .str _, k⟩, fun _ _ q => q⟩
theorem ig_scr {ns : List Int} {i y : Int} (hK : X.K = S.K) (hi : atI ns i = some y) (k : Q (.int y) μ) : IxG X S (.scr ns) (.int i) μ Q := fun F N H u v r ru rv => by
  cases rv
  cases ru with
  | @scr a _ ha =>
  have hi' : atI (ns.map V.int) i = some (.int y) := by
    unfold atI at hi ⊢
    rw [List.length_map]
    cases e : ixN ns.length i with
    | none => rw [e] at hi; cases hi
    | some j =>
      rw [e] at hi
      have hi : ns[j]? = some y := hi
      show (ns.map V.int)[j]? = _
      rw [List.getElem?_map, hi]
      rfl
  exact ⟨_, ix_list, EndE S F N Q, ⟨a, _, i, _, rfl, rfl, by rw [hK]; exact vis_le.l ha, hi', _, μ, r, .int _, k⟩, fun _ _ q => q⟩
def cutD (l : List D) (lo hi : Option Int) : List D := (l.drop (HT.sIx l.length 0 lo)).take (HT.sIx l.length l.length hi - HT.sIx l.length 0 lo)
theorem RpA.cut {S : Sg} {Hv : Hp} {vs : List V} {ds : List D} {lo hi : Option Int} (r : RpA S Hv vs ds) : RpA S Hv (cutV vs lo hi) (cutD ds lo hi) := by
  unfold cutV cutD
  rw [r.length]
  exact (r.drop _).take _
def PoG (X : Cx) (S : Sg) (e : Option Expr) (Γ : Gm) (μ : Mem) (P : Option Int → Mem → Prop) : Prop :=
  ∀ F N σ H, RelM S F N H μ → RelS S (vis N H (adr μ)) σ Γ → ∃ t, PO X e t ∧ ∀ Q : Option Int → Hp → Prop, (∀ i H' μ', RelM S (vis N H (adr μ)) N H' μ' → RelS S (vis N H' (adr μ')) σ Γ → P i μ' → Q i H') → t σ H Q
theorem po_no {P : Option Int → Mem → Prop} (k : P none μ) : PoG X S none Γ μ P := fun F N σ H r rs => ⟨_, po_none, fun Q q => q none H μ r.top rs k⟩
theorem po_so {P : Option Int → Mem → Prop} (h : EvG X S e Γ μ fun d μ' => ∃ i, d = .int i ∧ P (some i) μ') : PoG X S (some e) Γ μ P := fun F N σ H r rs => by
  refine ⟨_, po_some pe_ex, fun Q q => h.use r rs fun v H' d μ' r' rs' rd ⟨i, ei, k⟩ => ?_⟩
  subst ei
  cases rd
  exact ⟨i, rfl, q (some i) H' μ' r' rs' k⟩
def SlXt (X : Cx) : V → Option Int → Option Int → Hp → VK → Prop := fun x lo hi H Q => ∃ r, SlR X r ∧ ∃ Q0 : VK, r x lo hi H Q0 ∧ ∀ v H', Q0 v H' → Q v H'
theorem slr_self : SlR X (SlXt X) := by
  intro pins s σ H x v vl vu lo hi sl Q I rx hs pl pu h
  obtain ⟨r, hr, Q0, q, m⟩ := h
  obtain ⟨T, id, h1, h2, h3⟩ := hr pins s σ H x v vl vu lo hi sl Q0 I rx hs pl pu q
  exact ⟨T, id, h1, h2, thn h3 fun _ _ ⟨z, H', I', rz, q⟩ => ⟨z, H', I', rz, m _ _ q⟩⟩
def SlG (X : Cx) (S : Sg) (d : D) (lo hi : Option Int) (μ : Mem) (Q : QD) : Prop :=
  ∀ F N H x, RelM S F N H μ → Rp S (vis N H (adr μ)) x d → SlXt X x lo hi H (EndE S F N Q)
def POt (X : Cx) (e : Option Expr) : TO := fun σ H Q => ∃ t, PO X e t ∧ ∃ Q0, t σ H Q0 ∧ ∀ i H', Q0 i H' → Q i H'
theorem po_ex {e : Option Expr} : PO X e (POt X e) := ⟨fun pins s σ H Q I h => by
  obtain ⟨t, ht, Q0, q, m⟩ := h
  exact thn (ht.run pins s σ H Q0 I q) fun _ _ ⟨v, H', a, b, q'⟩ => ⟨v, H', a, b, m _ _ q'⟩⟩
theorem ev_sl {lo hi : Option Expr} {p2 : Pos} (h : EvG X S e Γ μ fun d μ1 => PoG X S lo Γ μ1 fun l μ2 => PoG X S hi Γ μ2 fun u μ3 => SlG X S d l u μ3 Q) : EvG X S (.Subscript e (.Slice lo hi none p2) pos) Γ μ Q := by
  intro F N σ H r rs
  refine ex_of (pe_slice slr_self pe_ex po_ex po_ex) ?_
  refine h.use r rs fun x H1 d μ1 r1 rs1 rx q1 => ?_
  obtain ⟨t, ht, q⟩ := q1 F N σ H1 (r1.weakF r.ext) rs1
  refine ⟨t, ht, _, q (fun i H2 => ∃ μ2, RelM S (vis N H1 (adr μ1)) N H2 μ2 ∧ RelS S (vis N H2 (adr μ2)) σ Γ ∧ PoG X S hi Γ μ2 fun u μ3 => SlG X S d i u μ3 Q) (fun i H2 μ2 r2 rs2 k => ⟨μ2, r2, rs2, k⟩), ?_⟩
  rintro i H2 ⟨μ2, r2, rs2, q2⟩
  obtain ⟨t', ht', q'⟩ := q2 F N σ H2 (r2.weakF (r.ext.trans r1.ext)) rs2
  refine ⟨t', ht', _, q' (fun u H3 => ∃ μ3, RelM S (vis N H2 (adr μ2)) N H3 μ3 ∧ SlG X S d i u μ3 Q) (fun u H3 μ3 r3 rs3 k => ⟨μ3, r3, k⟩), ?_⟩
  rintro u H3 ⟨μ3, r3, q3⟩
  exact q3 F N H3 x (r3.weakF ((r.ext.trans r1.ext).trans r2.ext)) (rx.ext (r2.ext.trans r3.ext))
theorem slg_s {z : Str} {lo hi : Option Int} (hz : z.length ≤ 16777216) (k : Q (.str (cutS z lo hi)) μ) : SlG X S (.str z) lo hi μ Q := fun F N H x r rx => by
  cases rx
  exact ⟨_, sl_str, EndE S F N Q, ⟨z, rfl, by rw [sizeLine_eq]; exact hz, _, μ, r, .str _, k⟩, fun _ _ q => q⟩
end
end GL
namespace GL
open PySem L2 PySem.Spec PyProof.Rows
abbrev SpG := List D → Mem → QD → QE → Prop
def spG (S : Sg0) (sg : SpG) : Sp := fun vs H Q E => ∃ F N ds μ, RelM0 S F N H μ ∧ RpA S (vis N H (adr μ)) vs ds ∧
  sg ds μ (fun d μ' => ∀ v H', RelM0 S F N H' μ' → Rp S (vis N H' (adr μ')) v d → Q v H')
    (fun c fs μ' => ∀ dd vs H', RelM0 S F N H' μ' → H' dd = some (.xd ((S.nms c).zip vs)) → vs.length = (S.nms c).length → RpA S (vis N H' (adr μ')) vs fs → N dd = none → dd ∉ adr μ' → E (.ref (S.cls c)) (some dd) H')
inductive Split : Mem → Mem → Mem → Prop
  | nil : Split [] [] []
  | l {p : Addr × M} {μ a b : Mem} : Split μ a b → Split (p :: μ) (p :: a) b
  | r {p : Addr × M} {μ a b : Mem} : Split μ a b → Split (p :: μ) a (p :: b)
theorem Split.none : ∀ μ : Mem, Split μ [] μ
  | [] => .nil
  | _ :: μ => .r (Split.none μ)
theorem Split.all : ∀ μ : Mem, Split μ μ []
  | [] => .nil
  | _ :: μ => .l (Split.all μ)
theorem Split.mem {μ a b : Mem} (s : Split μ a b) : ∀ q, q ∈ μ ↔ q ∈ a ∨ q ∈ b := by
  induction s with
  | nil => simp
  | l _ ih => intro q; simp only [List.mem_cons, ih q]; exact or_assoc.symm
  | r _ ih => intro q; simp only [List.mem_cons, ih q]; exact or_left_comm
theorem Split.adr {μ a b : Mem} (s : Split μ a b) (c : Addr) : c ∈ GL.adr μ ↔ c ∈ GL.adr a ∨ c ∈ GL.adr b := by
  simp only [GL.adr, List.mem_map]
  constructor
  · rintro ⟨q, hq, e⟩
    rcases (s.mem q).mp hq with h | h
    · exact .inl ⟨q, h, e⟩
    · exact .inr ⟨q, h, e⟩
  · rintro (⟨q, hq, e⟩ | ⟨q, hq, e⟩)
    · exact ⟨q, (s.mem q).mpr (.inl hq), e⟩
    · exact ⟨q, (s.mem q).mpr (.inr hq), e⟩
theorem Split.nd {μ a b : Mem} (s : Split μ a b) (nd : (GL.adr μ).Nodup) : (GL.adr a).Nodup ∧ (GL.adr b).Nodup ∧ ∀ c, c ∈ GL.adr a → c ∉ GL.adr b := by
  induction s with
  | nil => exact ⟨List.nodup_nil, List.nodup_nil, fun c h => by cases h⟩
  | @l p μ a b s ih =>
    obtain ⟨h1, h2⟩ := List.nodup_cons.mp nd
    obtain ⟨i1, i2, i3⟩ := ih h2
    refine ⟨List.nodup_cons.mpr ⟨fun h => h1 ((s.adr _).mpr (.inl h)), i1⟩, i2, fun c h => ?_⟩
    rcases List.mem_cons.mp h with e | h
    · exact fun h' => h1 ((s.adr _).mpr (.inr (e ▸ h')))
    · exact i3 c h
  | @r p μ a b s ih =>
    obtain ⟨h1, h2⟩ := List.nodup_cons.mp nd
    obtain ⟨i1, i2, i3⟩ := ih h2
    refine ⟨i1, List.nodup_cons.mpr ⟨fun h => h1 ((s.adr _).mpr (.inr h)), i2⟩, fun c h h' => ?_⟩
    rcases List.mem_cons.mp h' with e | h'
    · exact h1 ((s.adr _).mpr (.inl (e ▸ h)))
    · exact i3 c h h'
def hidP (N H : Hp) (b : Mem) : Hp := fun c => if c ∈ adr b then H c else N c
section
variable {S : Sg0} {F N H H' : Hp} {μ a b μ' : Mem}
theorem hidP_in (r : RelM0 S F N H μ) (s : Split μ a b) {c : Addr} (h : c ∈ adr b) : ∃ o, hidP N H b c = some o ∧ H c = some o := by
  obtain ⟨o, e⟩ := adr_some r ((s.adr c).mpr (.inr h))
  exact ⟨o, by unfold hidP; rw [if_pos h]; exact e, e⟩
theorem hidP_out {c : Addr} (h : c ∉ adr b) : hidP N H b c = N c := if_neg h
theorem split_vis (r : RelM0 S F N H μ) (s : Split μ a b) : vis (hidP N H b) H (adr a) = vis N H (adr μ) := by
  funext c
  unfold vis
  by_cases hb : c ∈ adr b
  · obtain ⟨o, e, _⟩ := hidP_in r s hb
    rw [if_pos (.inl (by rw [e]; rfl)), if_pos (.inr ((s.adr c).mpr (.inr hb)))]
  · rw [hidP_out hb]
    by_cases ha : c ∈ adr a
    · rw [if_pos (.inr ha), if_pos (.inr ((s.adr c).mpr (.inl ha)))]
    · have hm : c ∉ adr μ := fun h => ((s.adr c).mp h).elim ha hb
      by_cases hN : (N c).isSome = true
      · rw [if_pos (.inl hN), if_pos (.inl hN)]
      · rw [if_neg (by simp [hN, ha]), if_neg (by simp [hN, hm])]
theorem RelM0.split (r : RelM0 S F N H μ) (s : Split μ a b) : RelM0 S (vis N H (adr μ)) (hidP N H b) H a := by
  have ev := split_vis r s
  obtain ⟨n1, n2, n3⟩ := s.nd r.nd
  refine ⟨fun c o e => ?_, fun c hc => ?_, by rw [ev]; exact Ex.refl _, n1, fun q hq => ?_, fun c xs e => ?_⟩
  rotate_left 3
  · by_cases hb : c ∈ adr b
    · unfold hidP at e
      rw [if_pos hb] at e
      obtain ⟨q, hq, hqc⟩ := List.mem_map.mp ((s.adr c).mpr (.inr hb))
      obtain ⟨o, e1, e2⟩ := r.mem q hq
      rw [hqc, e] at e1
      cases e1
      exact e2.notup xs rfl
    · rw [hidP_out hb] at e
      exact r.tup c xs e
  · by_cases hb : c ∈ adr b
    · unfold hidP at e
      rw [if_pos hb] at e
      exact e
    · rw [hidP_out hb] at e
      exact r.hid c o e
  · rw [hidP_out (n3 c hc)]
    exact r.dis c ((s.adr c).mpr (.inl hc))
  · rw [ev]
    exact r.mem q ((s.mem q).mpr (.inl hq))
theorem RelM0.join (r : RelM0 S F N H μ) (s : Split μ a b) (r' : RelM0 S (vis N H (adr μ)) (hidP N H b) H' μ') :
    RelM0 S F N H' (μ' ++ b) ∧ vis N H' (adr (μ' ++ b)) = vis (hidP N H b) H' (adr μ') := by
  have key : ∀ c, c ∈ adr b → c ∉ adr μ' := fun c hc h => by
    obtain ⟨o, e, _⟩ := hidP_in r s hc
    have := r'.dis c h
    rw [e] at this
    cases this
  have hadr : ∀ c, c ∈ adr (μ' ++ b) ↔ c ∈ adr μ' ∨ c ∈ adr b := fun c => by simp only [adr, List.map_append, List.mem_append]
  have ev : vis N H' (adr (μ' ++ b)) = vis (hidP N H b) H' (adr μ') := by
    funext c
    unfold vis
    by_cases hb : c ∈ adr b
    · obtain ⟨o, e, _⟩ := hidP_in r s hb
      rw [if_pos (.inr ((hadr c).mpr (.inr hb))), if_pos (.inl (by rw [e]; rfl))]
    · rw [hidP_out hb]
      by_cases ha : c ∈ adr μ'
      · rw [if_pos (.inr ((hadr c).mpr (.inl ha))), if_pos (.inr ha)]
      · have hm : c ∉ adr (μ' ++ b) := fun h => ((hadr c).mp h).elim ha hb
        by_cases hN : (N c).isSome = true
        · rw [if_pos (.inl hN), if_pos (.inl hN)]
        · rw [if_neg (by simp only [hN, hm]; simp), if_neg (by simp only [hN, ha]; simp)]
  obtain ⟨n1, n2, n3⟩ := s.nd r.nd
  refine ⟨⟨fun c o e => ?_, fun c hc => ?_, ?_, ?_, fun q hq => ?_, r.tup⟩, ev⟩
  · have hb : c ∉ adr b := fun h => by
      have := r.dis c ((s.adr c).mpr (.inr h))
      rw [this] at e
      cases e
    exact r'.hid c o (by rw [hidP_out hb]; exact e)
  · rcases (hadr c).mp hc with h | h
    · have := r'.dis c h
      rw [hidP_out (fun z => key c z h)] at this
      exact this
    · exact r.dis c ((s.adr c).mpr (.inr h))
  · rw [ev]
    exact r.ext.trans r'.ext
  · show ((μ' ++ b).map _).Nodup
    rw [List.map_append]
    exact List.nodup_append.mpr ⟨r'.nd, n2, fun x hx y hy e => key y hy (e ▸ hx)⟩
  · rw [ev]
    rcases List.mem_append.mp hq with h | h
    · exact r'.mem q h
    · obtain ⟨o, e, m⟩ := r.mem q ((s.mem q).mpr (.inr h))
      obtain ⟨o', e1, e2⟩ := hidP_in r s (List.mem_map_of_mem h : q.1 ∈ adr b)
      rw [e] at e2
      cases e2
      exact ⟨o, r'.hid _ _ e1, m.ext r'.ext⟩
end
def AskG (S : Sg) (sg : SpG) (ds : List D) (μ : Mem) (Q : QD) : Prop := ∃ a b, Split μ a b ∧ sg ds a (fun d μ' => Q d (μ' ++ b)) (fun C fs μ' => S.qx C fs (μ' ++ b))
def MonoG (sg : SpG) : Prop := ∀ ds μ Q Q' E E', sg ds μ Q E → (∀ d μ', Q d μ' → Q' d μ') → (∀ C fs μ', E C fs μ' → E' C fs μ') → sg ds μ Q' E'
theorem ask_sp {S : Sg} {sg : SpG} {F N H : Hp} {μ : Mem} {vs : List V} {ds : List D} {Q : QD} (hm : MonoG sg) (r : RelM S F N H μ) (rv : RpA S (vis N H (adr μ)) vs ds) (h : AskG S sg ds μ Q) : spG S sg vs H (EndE S F N Q) S.wx := by
  obtain ⟨a, b, s, h⟩ := h
  refine ⟨_, _, ds, a, r.toRelM0.split s, by rw [split_vis r.toRelM0 s]; exact rv, hm _ _ _ _ _ _ h (fun d μ' q v H' r' rd => ?_) (fun c fs μ' q dd vs H' r' hd hl hf n1 n2 => ?_)⟩
  · obtain ⟨j1, j2⟩ := r.toRelM0.join s r'
    exact ⟨d, μ' ++ b, ⟨j1, r.iv⟩, by rw [j2]; exact rd, q⟩
  · obtain ⟨j1, j2⟩ := r.toRelM0.join s r'
    have hb : dd ∉ adr b := fun z => by
      obtain ⟨o, e, _⟩ := hidP_in r.toRelM0 s z
      rw [n1] at e
      cases e
    rw [hidP_out hb] at n1
    exact r.iv _ _ _ ⟨c, dd, vs, fs, μ' ++ b, rfl, rfl, hd, hl, by rw [j2]; exact hf, j1, n1, (fun z => by
      rw [adr, List.map_append] at z
      exact (List.mem_append.mp z).elim n2 hb), q⟩
section
variable {X : Cx} {S : Sg} {CX : CXT} {k : Nat} {f C : Addr} {fd : FuncData} {ps : List Str} {sg : SpG} {dvs : List V} {dfs : List Value} {dds : List D} {x m : Str} {p pos apos : Pos} {e o : Expr} {es : List Expr} {Γ : Gm} {μ : Mem} {Q : QD} {d : D}
theorem ev_call (hm' : MonoG sg) (F : FnOk X.prog X.w X.K X.mg X.base CX k f fd ps (spG S sg)) (hr : Room k X.A) (hg : Gl X x) (hm : X.mg x = some (.ref f)) (hk : PySem.W.keepIn X.K (.ref f) = true) (hb : Binds X.K fd ps dfs) (hd : Vals dvs dfs) (hdd : ∀ Hv, RpA S Hv dvs dds) (hx : Passes CX X S.wx)
    (h : EvA X S (e :: es) Γ μ fun ds μ1 => AskG S sg (ds ++ dds) μ1 Q)
    (hdb : (x == ("__debug__" : Str)) = false := by decide) (he : starEach (e :: es) X.env = (false, eval e X.env) :: starEach es X.env := by rfl) (hpl : (backTo pos (starEach es X.env)).any (·.1) = false := by rfl) :
    EvG X S (.Call (.Name x p) (e :: es) [] pos) Γ μ Q := by
  intro F' N σ H r rs
  refine ex_of (pe_call (E := S.wx) F hr hg hm hk hb hd hx pa_ex hdb he hpl) (h.use r rs fun vs H1 ds μ1 r1 rs1 rds q => ?_)
  exact ask_sp hm' (r1.weakF r.ext) (rds.append (hdd _)) q
inductive Rcv (S : Sg0) (μ : Mem) : D → Addr → List Str → Prop
  | obj {c : Nat} {l : List D} : Rcv S μ (.obj c l) (S.cls c) (S.nms c)
  | ins {a C : Addr} {fs : List (Str × D)} : (a, M.ins C fs) ∈ μ → Rcv S μ (.ref a) C (fs.map (·.1))
theorem lookup_none : ∀ {ns : List Str} {vs : List V} {m : Str}, m ∉ ns → (ns.zip vs).lookup m = none
  | [], _, _, _ => rfl
  | _ :: _, [], _, _ => rfl
  | n :: ns, v :: vs, m, h => by
    have h1 : m ≠ n := fun e => h (e ▸ List.mem_cons_self)
    have ih := lookup_none (ns := ns) (vs := vs) (m := m) fun z => h (List.mem_cons_of_mem _ z)
    show List.lookup m ((n, v) :: ns.zip vs) = none
    have hb : (m == n) = false := beq_eq_false_iff_ne.mpr h1
    simp only [List.lookup, hb]
    exact ih
theorem RpF.none {S : Sg0} {Hv : Hp} {m : Str} : ∀ {vs : List (Str × V)} {fs : List (Str × D)}, RpF S Hv vs fs → m ∉ fs.map (·.1) → vs.lookup m = Option.none
  | _, _, .nil, _ => rfl
  | _, _, @RpF.cons _ _ f v d vs ds _ t, h => by
    have h1 : m ≠ f := fun e => h (by rw [e]; exact List.mem_cons_self)
    have ih := RpF.none (m := m) t fun z => h (List.mem_cons_of_mem _ z)
    have hb : (m == f) = false := beq_eq_false_iff_ne.mpr h1
    simp only [List.lookup, hb]
    exact ih
theorem Rcv.at {S : Sg0} {F N H : Hp} {ns : List Str} {v : V} (h : Rcv S μ d C ns) (r : RelM0 S F N H μ) (rv : Rp S (vis N H (adr μ)) v d) : ∃ a dx fvs, v = .ref a ∧ H a = some (.ins C dx fvs) ∧ ∀ m, m ∉ ns → fvs.lookup m = none := by
  cases h with
  | obj =>
    cases rv with
    | obj ha hl hs => exact ⟨_, _, _, rfl, vis_le _ _ ha, fun m hm => lookup_none hm⟩
  | ins hm =>
    cases rv
    obtain ⟨o, e, rm⟩ := r.find hm
    cases rm with
    | ins h => exact ⟨_, _, _, rfl, e, fun m hm => h.none hm⟩
theorem ev_meth {pl : Sem Bool} {ns : List Str} (hm' : MonoG sg) (c : Cls X.K C) (hm : Meth X.K C m f) (F : FnOk X.prog X.w X.K X.mg X.base CX k f fd ps (spG S sg)) (hr : Room k X.A) (hb : Binds X.K fd ps dfs) (hd : Vals dvs dfs) (hdd : ∀ Hv, RpA S Hv dvs dds) (hx : Passes CX X S.wx)
    (h : EvG X S o Γ μ fun d μ1 => Rcv S μ1 d C ns ∧ m ∉ ns ∧ EvA X S (e :: es) Γ μ1 fun ds μ2 => AskG S sg (d :: (ds ++ dds)) μ2 Q)
    (hst : starEach (e :: es) X.env = (false, eval e X.env) :: starEach es X.env := by rfl) (hpl : (backTo pos (starEach es X.env)).any (·.1) = false := by rfl)
    (ht : eval (.Call (.Attribute o m apos) (e :: es) [] pos) X.env = (do
      let ov ← eval o X.env
      standAt apos.atName
      let (f, first) ← holding [ov] (getMethod ov m pl)
      callWith pos f first (backTo pos (starEach (e :: es) X.env)) (backToKw pos (keywordEach [] X.env))) := by rfl) :
    EvG X S (.Call (.Attribute o m apos) (e :: es) [] pos) Γ μ Q := by
  intro F' N σ H r rs
  refine ex_of (pe_meth (E := S.wx) pe_ex c hm F hr hb hd hx pa_ex hst hpl ht) (h.use r rs fun v H1 d μ1 r1 rs1 rd ⟨q1, q2, q3⟩ => ?_)
  obtain ⟨a, dx, fvs, e1, e2, e3⟩ := q1.at r1.toRelM0 rd
  refine ⟨a, dx, fvs, e1, e2, e3 m q2, ?_⟩
  refine q3.use r1 rs1 fun vs H2 ds μ2 r2 rs2 rds q => ?_
  exact ask_sp hm' (r2.weakF (r.ext.trans r1.ext)) (.cons (rd.ext r2.ext) (rds.append (hdd _))) q
theorem ev_meth0 {pl : Sem Bool} {ns : List Str} (hm' : MonoG sg) (c : Cls X.K C) (hm : Meth X.K C m f) (F : FnOk X.prog X.w X.K X.mg X.base CX k f fd ps (spG S sg)) (hr : Room k X.A) (hb : Binds X.K fd ps dfs) (hd : Vals dvs dfs) (hdd : ∀ Hv, RpA S Hv dvs dds) (hx : Passes CX X S.wx)
    (h : EvG X S o Γ μ fun d μ1 => Rcv S μ1 d C ns ∧ m ∉ ns ∧ AskG S sg (d :: dds) μ1 Q)
    (ht : eval (.Call (.Attribute o m apos) [] [] pos) X.env = (do
      let ov ← eval o X.env
      standAt apos.atName
      let (f, first) ← holding [ov] (getMethod ov m pl)
      callWith pos f first (backTo pos (starEach [] X.env)) (backToKw pos (keywordEach [] X.env))) := by rfl) :
    EvG X S (.Call (.Attribute o m apos) [] [] pos) Γ μ Q := by
  intro F' N σ H r rs
  refine ex_of (pe_meth0 (E := S.wx) pe_ex c hm F hr hb hd hx ht) (h.use r rs fun v H1 d μ1 r1 rs1 rd ⟨q1, q2, q3⟩ => ?_)
  obtain ⟨a, dx, fvs, e1, e2, e3⟩ := q1.at r1.toRelM0 rd
  refine ⟨a, dx, fvs, e1, e2, e3 m q2, ?_⟩
  exact ask_sp (vs := v :: dvs) hm' (r1.weakF r.ext) (.cons rd (hdd _)) q3
def NewG (S : Sg) (C : Addr) (sg : SpG) (ds : List D) (μ : Mem) (Q : QD) : Prop := ∃ a b, Split μ a b ∧ ∀ x, x ∉ adr μ → sg (.ref x :: ds) ((x, .ins C []) :: a) (fun d μ' => d = .non ∧ Q (.ref x) (μ' ++ b)) (fun C fs μ' => S.qx C fs (μ' ++ b))
theorem new_sp {F N H : Hp} {vs : List V} {ds : List D} (hm : MonoG sg) (r : RelM S F N H μ) (rv : RpA S (vis N H (adr μ)) vs ds) (h : NewG S C sg ds μ Q) (z dx : Addr) (hz : H z = none) (hdx : H dx = none) (hne : dx ≠ z) :
    spG S sg (.ref z :: vs) (upd (upd H dx (.own z)) z (.ins C dx [])) (fun v H2 => v = .non ∧ EndE S F N Q (.ref z) H2) S.wx := by
  obtain ⟨a, b, s, h⟩ := h
  have r1 := r.alloc (o := .own z) hdx
  have hz1 : upd H dx (.own z) z = none := by rw [upd_ne (Ne.symm hne)]; exact hz
  have r2 := r1.allocM (m := .ins C []) (o := .ins C dx []) hz1 (.ins .nil)
  have s2 : Split ((z, M.ins C []) :: μ) ((z, .ins C []) :: a) b := .l s
  have A : AskG S sg (.ref z :: ds) ((z, M.ins C []) :: μ) (fun d μ' => d = .non ∧ Q (.ref z) μ') := ⟨_, b, s2, h z (adr_new r.toRelM0 hz)⟩
  obtain ⟨F1, N1, ds1, μ1, p1, p2, p3⟩ := ask_sp hm r2 (.cons (.ref z) (rv.ext ((vis_new r.toRelM0 hdx).trans (vis_same r1.toRelM0 hz1)))) A
  refine ⟨F1, N1, ds1, μ1, p1, p2, hm _ _ _ _ _ _ p3 (fun d μ' q v H' r' rd => ?_) fun _ _ _ q => q⟩
  obtain ⟨d', μ2, q1, q2, q3, q4⟩ := q v H' r' rd
  subst q3
  cases q2
  exact ⟨rfl, _, μ2, q1, .ref z, q4⟩
theorem ev_make (hm' : MonoG sg) (M : Mk X.K C f) (F : FnOk X.prog X.w X.K X.mg X.base CX k f fd ps (spG S sg)) (hr : Room (k + 1) X.A) (hg : Gl X x) (hm : X.mg x = some (.ref C)) (hb : Binds X.K fd ps dfs) (hd : Vals dvs dfs) (hdd : ∀ Hv, RpA S Hv dvs dds) (hx : Passes CX X S.wx)
    (h : EvA X S (e :: es) Γ μ fun ds μ1 => NewG S C sg (ds ++ dds) μ1 Q)
    (hdb : (x == ("__debug__" : Str)) = false := by decide) (he : starEach (e :: es) X.env = (false, eval e X.env) :: starEach es X.env := by rfl) (hpl : (backTo pos (starEach es X.env)).any (·.1) = false := by rfl) :
    EvG X S (.Call (.Name x p) (e :: es) [] pos) Γ μ Q := by
  intro F' N σ H r rs
  refine ex_of (pe_make (E := S.wx) M F hr hg hm hb hd hx pa_ex hdb he hpl) (h.use r rs fun vs H1 ds μ1 r1 rs1 rds q => ?_)
  intro z dx hz hdx hne
  exact new_sp hm' (r1.weakF r.ext) (rds.append (hdd _)) q z dx hz hdx hne
def FrzQ (S : Sg0) (Q : QD) : QD := fun d μ => ∃ a, d = .ref a ∧ ∃ μ', (∃ l, Del a (.lst l) μ μ' ∧ Q (.lst l) μ') ∨ (∃ c l, Del a (.ins (S.cls c) ((S.nms c).zip l)) μ μ' ∧ (S.nms c).length = l.length ∧ Q (.obj c l) μ')
theorem bl_frz {sts : List Stmt} {i : Nat} {a : Addr} {l : List D} {μ' : Mem} {E : EG} (hi : Γ[i]? = some (some (.ref a))) (u : Del a (.lst l) μ μ') (h : BlG X S sts (Γ.set i (some (.lst l))) μ' E) : BlG X S sts Γ μ E := fun F N σ H r rs => by
  obtain ⟨v, hv, rv⟩ := RelS.get rs hi
  cases rv
  exact h F N σ H (r.del u) (RelS.frz hv (r.froz u) (RelS.ext (vis_del r.toRelM0 u) rs))
inductive FldG (S : Sg0) (μ : Mem) : D → Addr → Str → D → Prop
  | obj {c : Nat} {l : List D} {i : Nat} {f : Str} {y : D} : (S.nms c)[i]? = some f → (S.nms c).Nodup → l[i]? = some y → FldG S μ (.obj c l) (S.cls c) f y
  | ins {a C : Addr} {fs : List (Str × D)} {f : Str} {y : D} : (a, M.ins C fs) ∈ μ → fs.lookup f = some y → FldG S μ (.ref a) C f y
theorem lookup_zip : ∀ {ns : List Str} {vs : List V} {i : Nat} {f : Str} {v : V}, ns.Nodup → ns[i]? = some f → vs[i]? = some v → (ns.zip vs).lookup f = some v
  | [], _, _, _, _, _, h, _ => by simp at h
  | _ :: _, [], _, _, _, _, _, h => by simp at h
  | n :: ns, w :: vs, 0, f, v, nd, h1, h2 => by
    simp at h1 h2
    subst h1 h2
    show List.lookup n ((n, w) :: ns.zip vs) = some w
    simp [List.lookup]
  | n :: ns, w :: vs, i + 1, f, v, nd, h1, h2 => by
    have h1 : ns[i]? = some f := by simpa using h1
    have h2 : vs[i]? = some v := by simpa using h2
    obtain ⟨n1, n2⟩ := List.nodup_cons.mp nd
    have hne : f ≠ n := fun e => n1 (e ▸ List.mem_of_getElem? h1)
    have ih := lookup_zip n2 h1 h2
    show List.lookup f ((n, w) :: ns.zip vs) = some v
    have hb : (f == n) = false := beq_eq_false_iff_ne.mpr hne
    simp only [List.lookup, hb]
    exact ih
theorem RpF.look {S : Sg0} {Hv : Hp} {f : Str} {y : D} : ∀ {vs : List (Str × V)} {fs : List (Str × D)}, RpF S Hv vs fs → fs.lookup f = some y → ∃ v, vs.lookup f = some v ∧ Rp S Hv v y
  | _, _, .nil, h => by cases h
  | _, _, @RpF.cons _ _ g v d vs ds r t, h => by
    by_cases e : f = g
    · subst e
      simp only [List.lookup, beq_self_eq_true] at h ⊢
      cases h
      exact ⟨v, rfl, r⟩
    · have hb : (f == g) = false := beq_eq_false_iff_ne.mpr e
      simp only [List.lookup, hb] at h ⊢
      exact RpF.look t h
theorem FldG.at {S : Sg0} {F N H : Hp} {f : Str} {y : D} {v : V} (h : FldG S μ d C f y) (r : RelM0 S F N H μ) (rv : Rp S (vis N H (adr μ)) v d) : ∃ a dx fvs w, v = .ref a ∧ H a = some (.ins C dx fvs) ∧ fvs.lookup f = some w ∧ Rp S (vis N H (adr μ)) w y := by
  cases h with
  | obj hi nd hy =>
    cases rv with
    | obj ha hl hs =>
    obtain ⟨w, hw, rw'⟩ := hs.get hy
    exact ⟨_, _, _, w, rfl, vis_le _ _ ha, lookup_zip nd hi hw, rw'⟩
  | ins hm hl =>
    cases rv
    obtain ⟨o, e, rm⟩ := r.find hm
    cases rm with
    | ins h =>
    obtain ⟨w, hw, rw'⟩ := h.look hl
    exact ⟨_, _, _, w, rfl, e, hw, rw'⟩
theorem ev_fld {f : Str} (c : Cls X.K C) (n : NoAttr X.K C f) (h : EvG X S e Γ μ fun d μ1 => ∃ y, FldG S μ1 d C f y ∧ Q y μ1) (hb : attributeBase e f X.env (eval e X.env) = eval e X.env := by rfl) : EvG X S (.Attribute e f pos) Γ μ Q := by
  intro F N σ H r rs
  refine ex_of (pe_fld pe_ex hb) (h.use r rs fun v H1 d μ1 r1 rs1 rd ⟨y, q1, q2⟩ => ?_)
  obtain ⟨a, dx, fvs, w, e1, e2, e3, e4⟩ := q1.at r1.toRelM0 rd
  exact ⟨a, C, dx, fvs, w, e1, e2, c, n, e3, y, μ1, r1.weakF r.ext, e4, q2⟩
def putD (f : Str) (d : D) : List (Str × D) → List (Str × D)
  | [] => [(f, d)]
  | (g, x) :: r => if g = f then (g, d) :: r else (g, x) :: putD f d r
theorem RpF.put {S : Sg0} {Hv : Hp} {f : Str} {v : V} {y : D} (rv : Rp S Hv v y) : ∀ {vs : List (Str × V)} {fs : List (Str × D)}, RpF S Hv vs fs → RpF S Hv (putF f v vs) (putD f y fs)
  | _, _, .nil => .cons rv .nil
  | _, _, @RpF.cons _ _ g w d vs ds r t => by
    show RpF S Hv (if g = f then (g, v) :: vs else (g, w) :: putF f v vs) (if g = f then (g, y) :: ds else (g, d) :: putD f y ds)
    by_cases e : g = f
    · rw [if_pos e, if_pos e]
      exact .cons rv t
    · rw [if_neg e, if_neg e]
      exact .cons r (RpF.put rv t)
theorem RpF.length {S : Sg0} {Hv : Hp} : ∀ {vs : List (Str × V)} {fs : List (Str × D)}, RpF S Hv vs fs → vs.length = fs.length
  | _, _, .nil => rfl
  | _, _, .cons _ t => by rw [List.length_cons, List.length_cons, RpF.length t]
theorem st_fld {f : Str} {value : Expr} {pos' : Pos} {E : EG} (c : Cls X.K C) (n : NoAttr X.K C f)
    (h : EvG X S value Γ μ fun y μ1 => EvG X S o Γ μ1 fun d μ2 => ∃ a fs μ3, d = .ref a ∧ Upd a (.ins C fs) (.ins C (putD f y fs)) μ2 μ3 ∧ fs.length < 1000 ∧ E.nx Γ μ3)
    (hs : swapsWith value (some (.Attribute o f pos')) pos.line X.env = pure false := by rfl) : StG X S (.Assign [.Attribute o f pos'] value pos) Γ μ E := by
  intro F N σ H r rs
  refine sx_of (ps_fld pe_ex pe_ex hs) (h.use r rs fun v H1 y μ1 r1 rs1 ry q1 => ?_)
  refine q1.use r1 rs1 fun w H2 d μ2 r2 rs2 rd ⟨a, fs, μ3, ed, u, hl, q⟩ => ?_
  subst ed
  cases rd
  obtain ⟨ob, e, rm⟩ := r2.find u.mem
  cases rm with
  | @ins _ dx _ fvs h' =>
  have r3 := (r2.weakF (r.ext.trans r1.ext)).put u (o := .ins C dx (putF f v fvs)) (.ins (h'.put (ry.ext r2.ext)))
  refine ⟨a, C, dx, fvs, rfl, e, c, n, by rw [h'.length]; exact hl, Γ, μ3, r3, ?_, q⟩
  rw [u.adr, vis_upd (List.mem_map_of_mem u.mem)]
  exact rs2
end
end GL
namespace GL
open PySem L2 PySem.Spec PyProof.Rows
section
variable {CX : CXT} {P : Program} {w : World} {K : PySem.W.Frag} {mg : Str → Option Value} {base : Heap} {k : Nat} {f : Addr} {N ps : List Str}
theorem fn_once {x qual : Str} {st : Stmt} {fd : FuncData} (F : Fun K x qual st f fd) (S : FnScope N ps (defScope st)) {A : Around} {outer : List Env} {s : Shared} {H : Hp} {args : Args} {us : List Value} {vs : List V} {Q : VK} {E : XK}
    (hr : Room (k + 1) A) (e0 : Env0 P w K mg base A outer s H) (hb : BindsTo s fd args (ps.zip us)) (rv : Vals vs us) (hl : vs.length = ps.length)
    (body : ∀ cdv, Room k (A.deeper (envOfC qual (defScope st) s.heap.objs.size f cdv)) → ∃ t, PSs (cxOf CX P w K mg base N qual (defScope st) f cdv A outer s H E) (defBody st) t ∧ t { nx := fun _ H' => Q .non H', rt := Q } (start N vs) H) :
    codeAny (model P w) A (.call (.ref f) args) (CR CX outer P w H s Q E) s := by
  obtain ⟨oc, od, kV, doc, pm, an, cdv, ct, osl, rfl, lk, hcd⟩ := F.ex
  have KX : K.In s.heap := e0.mod.kin.keeps fun b o e => (e0.bs b o e).1
  refine codeAny_call_function hr.depth (KX _ _ lk) rfl S.co S.gen rfl (PySem.W.codeRec_of KX hcd) (hb _ _ _ _ ?_)
  have hk : ∀ y ∈ ps.zip us, (defScope st).names.lookup y.1 = some .local ∨ ((defScope st).names.lookup y.1 = some .cell ∧ ((cellsFrom (s.heap.objs.size + 1) (defScope st).names []).lookup y.1).isSome = true) := by
    rintro ⟨n, v⟩ hy
    cases S.par n (List.of_mem_zip hy).1 with
    | inl q => exact .inl q
    | inr q => exact .inr ⟨q, PySem.W.cellsFrom_some _ _ _ (.inl q)⟩
  refine wpAny_newFunctionEnv_cells S.kind hk fun env he s1 ic => ?_
  subst he
  have lim : s.heap.NoLimit := e0.mod.nolimit.keeps fun b o e => (e0.bs b o e).1
  obtain ⟨t, ht, hq⟩ := body cdv (hr.deeper _)
  refine ⟨lim.keeps ic.toInCall.keep, codeAny_func ?_⟩
  have I := inv_start (CX := CX) (E := E) S hr.hd e0 hl rv ic
  have fin : ∀ (σ' : L2.St) (H' : Hp) (v : V) (u : Value) (s' : Shared), Inv (cxOf CX P w K mg base N qual (defScope st) f cdv A outer s H E) [] σ' H' s' → RelV v u → Q v H' → CE outer P w H s Q u s' := by
    intro σ' H' v u s' J r q
    exact ⟨v, H', J.os, J.bare, J.base, J.hok, r, q⟩
  refine wpAny_mono (ht.run [] s1 (start N vs) H _ I hq) (fun fl s' hs => ?_) (fun e s' hs => hs)
  cases fl with
  | next =>
    obtain ⟨σ', H', J, q⟩ := hs
    exact fin σ' H' .non .none s' J rfl q
  | ret u =>
    obtain ⟨v, σ', H', J, r, q⟩ := hs
    exact fin σ' H' v u s' J r q
  | brk => obtain ⟨_, _, _, q⟩ := hs; exact q.elim
  | cont => obtain ⟨_, _, _, q⟩ := hs; exact q.elim
end
structure FnIt (P : Program) (w : World) (K : PySem.W.Frag) (mg : Str → Option Value) (base : Heap) (k : Nat) (f C : Addr) (fld : Str) : Prop where
  run : ∀ (A : Around) (outer : List Env) (s : Shared) (H : Hp) (a dx l : Addr) (fs : List (Str × V)) (zs : List V), Room k A → Env0 P w K mg base A outer s H → H a = some (.ins C dx fs) → fs.lookup fld = some (.ref l) → SqL K H l zs →
    codeAny (model P w) A (.call (.ref f) ⟨[.ref a], []⟩) (CR CX0 outer P w H s (fun v H' => ∃ it, v = .ref it ∧ s.heap.objs.size ≤ it ∧ H it = none ∧ H' = upd H it (ItO l it 0)) E0) s
theorem fnit_of {P : Program} {w : World} {K : PySem.W.Frag} {mg : Str → Option Value} {base : Heap} {k : Nat} {f C : Addr} {x qual fld : Str} {st : Stmt} {fd : FuncData} {p1 p2 p3 p4 p5 : Pos}
    (F : Fun K x qual st f fd) (S : FnScope ["self"] ["self"] (defScope st)) (hb : Binds K fd ["self"] [])
    (hbody : defBody st = [.Return (some (.Call (.Name "iter" p1) [.Attribute (.Name "self" p2) fld p3] [] p4)) p5]) (c : Cls K C) (n : NoAttr K C fld) (hm : mg ("iter" : Str) = none) (hg : (defScope st).names.lookup ("iter" : Str) = some .globalImplicit)
    (hv : (defScope st).names.lookup ("self" : Str) = some .local) : FnIt P w K mg base (k + 1) f C fld := by
  refine ⟨fun A outer s H a dx l fs zs hr e0 ha hl hz => ?_⟩
  have KX : K.In s.heap := e0.mod.kin.keeps fun b o e => (e0.bs b o e).1
  refine fn_once F S (us := [.ref a]) (vs := [.ref a]) hr e0 (by simpa using hb s [.ref a] KX rfl) (.cons rfl .nil) rfl fun cdv hr' => ?_
  rw [hbody]
  refine ⟨_, PSs.nox (pss_one (ps_ret (pe_callB ItX.call_iterN hg hm (by decide +kernel) (pa_cons (pe_fld (pe_var (i := 0) rfl (.inl hv)) rfl) pa_nil)))), ?_⟩
  exact ⟨_, rfl, a, C, dx, fs, _, rfl, ha, c, n, hl, l, zs, rfl, hz, fun it h1 h2 => ⟨it, rfl, h2, h1, rfl⟩⟩
section
variable {X : Cx} {S : Sg} {tg : Expr} {μ : Mem} {R : RI} {d : D} {k : Nat} {f C : Addr} {fld : Str}
theorem iv_own {l : List D} (hK : X.K = S.K) (F : FnIt X.prog X.w X.K X.mg X.base k f C fld) (hr : Room k X.A) (hs : PySem.W.findIn X.K (.ref C) "__iter__" = some (some (.ref f))) (hf : PySem.W.isFn X.K (.ref f) = true)
    (h : FldG S μ d C fld (.lst l)) (q : R (fun _ => True) l μ) : IterV X S tg d μ R := by
  intro F0 N H x r rx Rr kk
  obtain ⟨a, dx, fvs, w, rfl, ha, hw, rw'⟩ := h.at r.toRelM0 rx
  cases rw' with
  | @lst la xs _ hl hxs =>
  intro pins s σ v I rv
  cases rv
  obtain ⟨mA, O, _⟩ := ins_get I.hok ha
  obtain ⟨od, J, _⟩ := O.look
  obtain ⟨m, hF⟩ := I.fr
  refine PySem.W.owit_iter hF I.ok.mod.kin J hs hf (wpAny_call (codeAny_mono (F.run X.A X.stack s H a dx la fvs xs hr I.env0 ha hw (SqL.of (vis_le _ _ hl))) fun rs s' hq => ?_))
  cases rs with
  | error e => exact hq.elim
  | ok fl =>
    cases fl with
    | next => exact hq.elim
    | brk => exact hq.elim
    | cont => exact hq.elim
    | ret u =>
      obtain ⟨v, H', I', rv, it, rfl, h1, h2, rfl⟩ := I.after hq
      cases rv
      have eo : upd H it (ItO la it 0) it = some (ItO la it 0) := upd_same
      have eo' := eo
      unfold ItO at eo'
      have ho : s'.heap.get? it = some (GNX.itObj la 0) := L2.itO_get I' eo
      have st : s'.heap.IsListIter it la 0 := ⟨_, ho, rfl, rfl⟩
      refine wpAny_bind (wpAny_typeOf (T := "list_iterator") ⟨_, ho, rfl⟩ ?_)
      refine wpAny_of_eq slot_listiter_next.lookup ?_
      refine ⟨it, [it], _, _, ItX.dropH (upd H it (ItO la it 0)) it, rfl, ItX.inv_drop I' eo', turn_list la it, st, fun b hb => ?_, ?_⟩
      · rw [List.mem_singleton.mp hb]
        exact ItX.inv_fp I' eo (Nat.le_trans I.sz h1)
      · rw [ItX.dropH_upd h2, hK]
        exact kk _ H l _ μ r.top (itok_l (SqL.of hl) hxs) q
end
end GL
namespace GL
open PySem L2 PySem.Spec PyProof.Rows
section
variable {X : Cx} {S : Sg} {CX : CXT} {k : Nat} {f C : Addr} {fd : FuncData} {ps : List Str} {sg : SpG} {Γ : Gm} {μ : Mem} {Q : QD} {d e : D}
theorem run_at {A : Around} {sp : Sp} {pins : List (Addr × Obj)} {σ : L2.St} {H : Hp} {s : Shared} {Qv : VK} {us : List Value} {vs : List V} {E : XK} (F : FnOk X.prog X.w X.K X.mg X.base CX k f fd ps sp) (hr : Room k A) (hfr : A.frames = X.A.frames) (hb : Binds X.K fd ps [])
    (hx : Passes CX X E) (I : Inv X pins σ H s) (r : Vals vs us) (h : sp vs H Qv E) : wpAny (model X.prog X.w) A (call (.ref f) us) (EP X pins σ Qv) X.xe s := by
  have e := I.env0
  have e0 : Env0 X.prog X.w X.K X.mg X.base A X.stack s H := ⟨hfr.trans e.frames, e.mod, e.bs, e.bsz, e.funs, e.frf, e.hok, e.bare⟩
  have hl : us.length = ps.length := by rw [← r.length]; exact F.len _ _ _ _ h
  have b := hb s us I.kIn (by rw [List.append_nil]; exact hl)
  rw [List.append_nil] at b
  refine wpAny_call (codeAny_mono (F.run A X.stack s H ⟨us, []⟩ us vs Qv E hr e0 b r h) fun rs s' hq => ?_)
  cases rs with
  | error er => exact hx pins σ H s er s' I hq
  | ok fl =>
    cases fl with
    | ret u => exact I.after hq
    | next => exact hq.elim
    | brk => exact hq.elim
    | cont => exact hq.elim
structure MethG (X : Cx) (S : Sg) (CX : CXT) (k : Nat) (C f : Addr) (m : Str) (fd : FuncData) (ps : List Str) (sg : SpG) : Prop where
  mono : MonoG sg
  at_ : PySem.W.findIn X.K (.ref C) m = some (some (.ref f))
  fn : PySem.W.isFn X.K (.ref f) = true
  ok : FnOk X.prog X.w X.K X.mg X.base CX k f fd ps (spG S sg)
  hb : Binds X.K fd ps []
  hx : Passes CX X S.wx
theorem ig_own {ns : List Str} (M : MethG X S CX k C f "__getitem__" fd ps sg) (hfi : PySem.W.fnIn X.K f = true) (hr : Room (k + 1) X.A) (h1 : Rcv S μ d C ns) (h : AskG S sg [d, e] μ Q)
    {a b : Expr} {pos : Pos} {Γ : Gm} {μ0 : Mem} (hsl : ∀ o i, subscripted b true o i = runValue (.builtin "lifetime.subscript" ⟨[o, i], []⟩) := by intro _ _; with_unfolding_all rfl) :
    ∀ F N H x y, RelM S F N H μ → Rp S (vis N H (adr μ)) x d → Rp S (vis N H (adr μ)) y e → OPt X (fun v u => subscriptTail a b v u) x y H (EndE S F N Q) := by
  intro F N H x y r rx ry pins s σ v u I rv ru
  obtain ⟨a, dx, fvs, rfl, ha, _⟩ := h1.at r.toRelM0 rx
  cases rv
  obtain ⟨mA, O, _⟩ := ins_get I.hok ha
  obtain ⟨od, J, _⟩ := O.look
  obtain ⟨m, hF⟩ := I.fr
  refine PySem.W.sub_K hF I.ok.mod.kin J M.at_ hfi M.fn ?_ (hsl _ _)
  exact run_at (vs := [.ref a, y]) M.ok hr.in1 rfl M.hb M.hx I (.cons rfl (.cons ru .nil)) (ask_sp M.mono r (.cons rx (.cons ry .nil)) h)
theorem ev_ixOwn {a b : Expr} {pos : Pos} (hfi : PySem.W.fnIn X.K f = true) (hr : Room (k + 1) X.A) (M : MethG X S CX k C f "__getitem__" fd ps sg)
    (h : EvG X S a Γ μ fun d1 μ1 => EvG X S b Γ μ1 fun d2 μ2 => ∃ ns, Rcv S μ2 d1 C ns ∧ AskG S sg [d1, d2] μ2 Q)
    (hsl : ∀ o i, subscripted b true o i = runValue (.builtin "lifetime.subscript" ⟨[o, i], []⟩) := by intro _ _; with_unfolding_all rfl) : EvG X S (.Subscript a b pos) Γ μ Q := by
  intro F N σ H r rs
  refine ⟨fun pins s I => ?_⟩
  refine Subscript_ (binT pe_ex pe_ex I (h.use r rs fun x H1 d1 μ1 r1 rs1 rx hb => hb.use (P := fun y H2 => OPt X (fun v u => subscriptTail a b v u) x y H2 (EndE S F N Q)) r1 rs1 fun y H2 d2 μ2 r2 rs2 ry ⟨ns, q1, q2⟩ => ?_) fun v u s2 x y H2 I2 rx ry q => q pins s2 σ v u I2 rx ry)
  exact ig_own M hfi hr q1 q2 (a := a) (b := b) (pos := pos) (Γ := Γ) (μ0 := μ) hsl F N H2 x y (r2.weakF (r.ext.trans r1.ext)) (rx.ext r2.ext) ry
end
def startG (N : List Str) (ds : List D) : Gm := ds.map some ++ List.replicate (N.length - ds.length) none
theorem start_rel {S : Sg0} {Hv : Hp} {vs : List V} {ds : List D} {N : List Str} (h : RpA S Hv vs ds) : RelS S Hv (L2.start N vs) (startG N ds) := by
  have h2 : ∀ n, RelS S Hv (List.replicate n none) (List.replicate n none) := fun n => by
    induction n with
    | zero => exact .nil
    | succ n ih => exact .cons (fun d hd => by cases hd) ih
  have h1 : ∀ {vs : List V} {ds : List D} {σ : L2.St} {Γ : Gm}, RpA S Hv vs ds → RelS S Hv σ Γ → RelS S Hv (vs.map some ++ σ) (ds.map some ++ Γ) := by
    intro vs
    induction vs with
    | nil => intro ds σ Γ h t; cases h; exact t
    | cons v vs ih =>
      intro ds σ Γ h t
      cases h with
      | @cons _ _ d ds hv ht => exact .cons (fun e he => by cases he; exact ⟨v, rfl, hv⟩) (ih ht t)
  unfold L2.start startG
  rw [h.length]
  exact h1 h (h2 _)
end GL
namespace GL
open PySem L2 PySem.Spec PyProof.Rows
theorem kit_same {K : PySem.W.Frag} {c : Value} : PySem.W.kitOne K c c = some true := by
  unfold PySem.W.kitOne
  rw [if_pos (beq_self_eq_true c)]
theorem kit_other {K : PySem.W.Frag} {t : Value} {C : Addr} {b : Bool} (h1 : PySem.W.isClsIn K C = true) (h2 : PySem.W.typeIn K (.ref C) = some (.type "type")) (h3 : PySem.W.subIn K t (.ref C) = some b) (h4 : (t == .ref C) = false) : PySem.W.kitOne K t (.ref C) = some b := by
  have h1' : (PySem.W.clsIn K C).isSome = true := h1
  unfold PySem.W.kitOne PySem.W.kitCls
  rw [h4, if_neg Bool.false_ne_true]
  simp only [h1', h2, beq_self_eq_true, Bool.and_self, if_true]
  exact h3
end GL
namespace GL
open PySem L2 PySem.Spec PyProof.Rows
section
variable {X : Cx} {S : Sg} {a b c e o : Expr} {es : List Expr} {sts : List Stmt} {Γ : Gm} {μ : Mem} {Q : QD} {x : Str} {pos p : Pos} {d : D} {E : EG} {tg iter : Expr} {body : List Stmt}
theorem nm (i : Nat) (k : Q d μ) (hN : X.N[i]? = some x := by rfl) (hv : Vis X.env.scope x := by first | exact Or.inl rfl | exact Or.inr (Or.inl rfl) | exact Or.inr (Or.inr rfl)) (hΓ : Γ[i]? = some (some d) := by rfl)
    (hd : (x == ("__debug__" : Str)) = false := by decide) (hcd : (x == ("__classdict__" : Str)) = false := by decide) : EvG X S (.Name x pos) Γ μ Q := ev_name hN hv hΓ k hd hcd
theorem asg (i : Nat) {pos' : Pos} (nd : X.N.Nodup) (h : EvG X S e Γ μ fun d μ1 => BlG X S sts (Γ.set i (some d)) μ1 E) (hi : X.N[i]? = some x := by rfl) (hx : Loc X.env.scope x := by first | exact Or.inl rfl | exact Or.inr rfl)
    (hs : swapsWith e (some (.Name x pos')) pos.line X.env = pure false := by rfl) (hf : X.fn x = true ∨ X.env.scope.names.lookup x = some .local := by first | exact .inl rfl | exact .inr rfl) : BlG X S (.Assign [.Name x pos'] e pos :: sts) Γ μ E := bl_cons (st_set nd hi hx h hs hf)
theorem ifb {orelse : List Stmt} (h : EvT X S c Γ μ fun t μ1 => (t = true → BlG X S body Γ μ1 { E with nx := fun Γ' μ' => BlG X S sts Γ' μ' E }) ∧ (t = false → BlG X S orelse Γ μ1 { E with nx := fun Γ' μ' => BlG X S sts Γ' μ' E })) : BlG X S (.If c body orelse pos :: sts) Γ μ E := bl_cons (st_if h)
theorem ret (h : EvG X S e Γ μ E.rt) : BlG X S (.Return (some e) pos :: sts) Γ μ E := bl_cons (st_ret h)
theorem nil (k : E.nx Γ μ) : BlG X S [] Γ μ E := bl_nil k
theorem tn (i : Nat) {vs : List Nat} {P : Gm → Mem → Prop} (nd : X.N.Nodup) (k : P (Γ.set i (some d)) μ) (hv : i ∈ vs := by decide) (hi : X.N[i]? = some x := by rfl) (hx : Loc X.env.scope x := by first | exact Or.inl rfl | exact Or.inr rfl)
    (hf : X.fn x = true ∨ X.env.scope.names.lookup x = some .local := by first | exact .inl rfl | exact .inr rfl) : TgG X S vs (.Name x pos) d Γ μ P := tg_name hv nd hi hx k hf
theorem forb (hp : PassesOwn (model X.prog X.w) X.A X.env X.xe)
    (hi : IterG X S tg iter Γ μ fun Km ds μ1 => ∃ I : Nat → Gm → Mem → Prop, I 0 Γ μ1 ∧ (∀ i Γ' μ', I i Γ' μ' → Km μ') ∧
      (∀ i d Γ' μ', ds[i]? = some d → I i Γ' μ' → TgG X S (List.range 64) tg d Γ' μ' fun Γ2 μ2 => BlG X S body Γ2 μ2 { nx := I (i + 1), ct := I (i + 1), bk := fun Γ' μ' => BlG X S sts Γ' μ' E, rt := E.rt }) ∧
      (∀ Γ' μ', I ds.length Γ' μ' → BlG X S sts Γ' μ' E))
    (hc : X.calm = true := by rfl) (hs : ∀ x, foldedSetIterable iter X.env x = pure x := by intro _; rfl) : BlG X S (.For tg iter body [] pos :: sts) Γ μ E := bl_cons (st_for hp hc hi hs)
theorem append_at {a : Addr} {l : List D} {μ' : Mem} {d : D} (hu : Upd a (.lst l) (.lst (l ++ [d])) μ μ') (hl : l.length < 16777216) (k : Q .non μ') :
    ∀ F N H x xs, RelM S F N H μ → Rp S (vis N H (adr μ)) x (.ref a) → RpA S (vis N H (adr μ)) xs [d] → rAppend x xs H (EndE S F N Q) := fun F N H x xs r rx rq => by
  cases rx
  obtain ⟨v, rfl, rv⟩ := rq.one
  obtain ⟨ob, e, rm⟩ := r.find hu.mem
  cases rm with
  | @lst _ ys hs => exact ⟨a, ys, v, rfl, rfl, e, by rw [hs.length, sizeLine_eq]; exact hl, _, μ', r.put hu (.lst (hs.append (.cons rv .nil))), .non, k⟩
def MtG (X : Cx) (S : Sg) (id : String) (d : D) (ds : List D) (μ : Mem) (Q : QD) : Prop :=
  ∀ F N H x xs, RelM S F N H μ → Rp S (vis N H (adr μ)) x d → RpA S (vis N H (adr μ)) xs ds → ∃ r, MtR X id r ∧ ∃ Q0 : VK, r x xs H Q0 ∧ ∀ v H', Q0 v H' → EndE S F N Q v H'
def MTt (X : Cx) (id : String) : V → List V → Hp → VK → Prop := fun x xs H Q => ∃ r, MtR X id r ∧ ∃ Q0 : VK, r x xs H Q0 ∧ ∀ v H', Q0 v H' → Q v H'
theorem mtr_self {id : String} : MtR X id (MTt X id) := by
  intro pins s σ H x xs v us Q I rx rv h
  obtain ⟨r, hr, Q0, q, m⟩ := h
  exact thn (hr pins s σ H x xs v us Q0 I rx rv q) fun _ _ ⟨z, H', I', rz, q⟩ => ⟨z, H', I', rz, m _ _ q⟩
def tyD (μ : Mem) (T : String) (d : D) : Prop := match d with
  | .str _ => T = "str"
  | .lst _ => T = "list"
  | .ref a => T = "list" ∧ ∃ l, (a, M.lst l) ∈ μ
  | _ => False
theorem tyD_at {F N H : Hp} {T : String} {v : V} (h : tyD μ T d) (r : RelM S F N H μ) (rv : Rp S (vis N H (adr μ)) v d) : tyV X.K T v H := by
  cases rv with
  | str x => exact h
  | lst ha hs => exact .inl ⟨h, _, SqL.of (vis_le _ _ ha)⟩
  | ref a =>
    obtain ⟨h1, l, hm⟩ := h
    obtain ⟨o, e, rm⟩ := r.find hm
    cases rm with
    | lst hs => exact .inl ⟨h1, _, SqL.of e⟩
  | _ => exact h.elim
theorem ev_bm {name : Str} {apos : Pos} {T id : String} (pa : PlainAttrs T) (slot : Slot T name id) (hty : typeOf (.builtin id) = pure (.type "method_descriptor"))
    (h : EvG X S o Γ μ fun d μ1 => tyD μ1 T d ∧ EvA X S (e :: es) Γ μ1 fun ds μ2 => MtG X S id d ds μ2 Q)
    (hbase : attributeBase o name X.env (eval o X.env) = eval o X.env := by rfl)
    (hfew : ((backTo pos (starEach (e :: es) X.env)).all (fun x => !x.1) && (backToKw pos (keywordEach [] X.env)).all (fun x => x.1.isSome)
      && decide ((e :: es).length + ([] : List Keyword).length + (if ([] : List Keyword).isEmpty then 0 else 1) < 30)) = true := by rfl)
    (hline : (apos.endLine == pos.line) = true := by rfl) (hs : starEach (e :: es) X.env = (false, eval e X.env) :: starEach es X.env := by rfl) (hplain : (backTo pos (starEach es X.env)).any (·.1) = false := by rfl) :
    EvG X S (.Call (.Attribute o name apos) (e :: es) [] pos) Γ μ Q := by
  intro F N σ H r rs
  refine ex_of (pe_bm pa slot hty mtr_self pe_ex pa_ex hbase hfew hline hs hplain) (h.use r rs fun v H1 d μ1 r1 rs1 rd ⟨q1, q2⟩ => ⟨tyD_at q1 r1 rd, ?_⟩)
  exact q2.use r1 rs1 fun vs H2 ds μ2 r2 rs2 rds q => q F N H2 v vs (r2.weakF (r.ext.trans r1.ext)) (rd.ext r2.ext) rds
theorem ev_app {apos : Pos} (h : EvG X S o Γ μ fun d μ1 => ∃ a, d = .ref a ∧ (∃ l, (a, M.lst l) ∈ μ1) ∧ EvA X S [e] Γ μ1 fun ds μ2 => ∃ y l μ3, ds = [y] ∧ Upd a (.lst l) (.lst (l ++ [y])) μ2 μ3 ∧ l.length < 16777216 ∧ Q .non μ3)
    (hbase : attributeBase o "append" X.env (eval o X.env) = eval o X.env := by rfl)
    (hfew : ((backTo pos (starEach [e] X.env)).all (fun x => !x.1) && (backToKw pos (keywordEach [] X.env)).all (fun x => x.1.isSome)
      && decide ([e].length + ([] : List Keyword).length + (if ([] : List Keyword).isEmpty then 0 else 1) < 30)) = true := by rfl)
    (hline : (apos.endLine == pos.line) = true := by rfl) (hs : starEach [e] X.env = (false, eval e X.env) :: starEach [] X.env := by rfl) (hplain : (backTo pos (starEach [] X.env)).any (·.1) = false := by rfl) :
    EvG X S (.Call (.Attribute o "append" apos) [e] [] pos) Γ μ Q := by
  refine ev_bm PySem.F.plainAttrs_list PySem.F.slot_list_append PySem.F.type_list_append (h.mono fun d μ1 ⟨a, ed, hl, q⟩ => ?_) hbase hfew hline hs hplain
  subst ed
  refine ⟨⟨rfl, hl⟩, fun F N σ H r rs => (q F N σ H r rs).mono fun vs H' ⟨ds, μ2, r2, rds, y, l, μ3, eds, u, hz, k⟩ => ⟨ds, μ2, r2, rds, ?_⟩⟩
  subst eds
  intro F N H x xs r rx rq
  exact ⟨_, mt_append, _, append_at u hz k F N H x xs r rx rq, fun _ _ q => q⟩
end
theorem fund_ok {P : Program} {w : World} {K : PySem.W.Frag} {mg : Str → Option Value} {base : Heap} {S : Sg0} {k : Nat} {f : Addr} {fd : FuncData} {N ps : List Str} {sg : SpG} {x qual : Str} {params : Arguments} {body : List Stmt} {scope : Scope} {dvs : List V} {kws : List (Str × V)}
    (F : FunD K x qual params body scope dvs kws f fd) (sc : FnScope N ps scope) (len : ∀ ds μ Q Ex, sg ds μ Q Ex → ds.length = ps.length)
    (hbody : ∀ (cdv : Value) (A : Around) (outer : List Env) (s : Shared) (H : Hp) (E : XK) (ds : List D) (μ : Mem) (Q : QD) (Ex : QE), Room k (A.deeper (envOfC qual scope s.heap.objs.size f cdv)) → sg ds μ Q Ex →
      BlG (cxOf CX0 P w K mg base N qual scope f cdv A outer s H E).nox S.nx body (startG N ds) μ { nx := fun _ μ' => Q .non μ', rt := Q }) :
    FnOk P w K mg base CX0 (k + 1) f fd ps (spG S sg) := by
  refine F.ok sc (fun vs H Q E h => ?_) (fun cdv A outer s H vs Q E hr h => ?_)
  · obtain ⟨_, _, ds, μ, _, rv, h⟩ := h
    rw [rv.length]
    exact len ds μ _ _ h
  · obtain ⟨F0, N0, ds, μ, r, rv, h⟩ := h
    refine ⟨_, PSs.nox pss_ex, ⟨fun pins s' I => ?_⟩⟩
    refine thn (hbody cdv A outer s H E ds μ _ _ hr h F0 N0 (L2.start N vs) H ⟨r, nx_iv⟩ (start_rel rv) pins s' I) fun fl s2 q => ?_
    cases fl with
    | next =>
      obtain ⟨σ', H', I', Γ', μ', r', rs', q⟩ := q
      exact ⟨σ', H', I', q .non H' r'.toRelM0 .non⟩
    | ret u =>
      obtain ⟨v, σ', H', I', rv', d', μ', r', rd, q⟩ := q
      exact ⟨v, σ', H', I', rv', q v H' r'.toRelM0 rd⟩
    | brk => obtain ⟨σ', H', I', Γ', μ', r', rs', q⟩ := q; exact q.elim
    | cont => obtain ⟨σ', H', I', Γ', μ', r', rs', q⟩ := q; exact q.elim
end GL
namespace GL
open PySem L2
theorem fund_fun {K : PySem.W.Frag} {x qual : Str} {st : Stmt} {f : Addr} {fd : FuncData} {kws : List (Str × V)} (F : FunD K x qual (defArgs st) (defBody st) (defScope st) [] kws f fd) : Fun K x qual st f fd := by
  obtain ⟨oc, od, dV, kV, doc, pm, an, cdv, ct, osl, e, lk, hcd, hD, _⟩ := F.ex
  rcases hD with ⟨_, rfl⟩ | ⟨h, _⟩
  · exact ⟨⟨oc, od, kV, doc, pm, an, cdv, ct, osl, e, lk, hcd⟩, F.kp⟩
  · exact absurd rfl h
end GL
namespace GL
open PySem L2
theorem hu_room {A : Around} {k : Nat} (hr : Room k A) : A.units + 65 < cLine := by have := hr.un; omega
end GL
namespace GL
theorem few {n : Nat} (h : Nat.ble n 16777216 = true := by rfl) : n ≤ 16777216 := Nat.le_of_ble_eq_true h
end GL
namespace GL
open PySem L2
def pr (R : List D → D → Prop) : SpG := fun ds μ Q _ => ∃ d, R ds d ∧ Q d μ
end GL
namespace GL
open PySem L2
theorem b_len : bootBuiltins "len" = some (.builtin "len") := by decide +kernel
theorem b_isinstance : bootBuiltins "isinstance" = some (.builtin "isinstance") := by decide +kernel
theorem b_list : bootBuiltins "list" = some (.type "list") := by decide +kernel
theorem b_tuple : bootBuiltins "tuple" = some (.type "tuple") := by decide +kernel
theorem b_int : bootBuiltins "int" = some (.type "int") := by decide +kernel
end GL
namespace GL
open PySem L2
section
variable {X : Cx} {S : Sg} {Γ : Gm} {μ : Mem} {Q : QD} {x f : Str} {pos p : Pos} {d y : D} {C : Addr}
theorem fld (i : Nat) (c : Cls X.K C) (n : NoAttr X.K C f) (h : FldG S μ d C f y) (k : Q y μ) (hN : X.N[i]? = some x := by rfl) (hv : Vis X.env.scope x := by first | exact Or.inl rfl | exact Or.inr (Or.inl rfl) | exact Or.inr (Or.inr rfl)) (hΓ : Γ[i]? = some (some d) := by rfl)
    (hd : (x == ("__debug__" : Str)) = false := by decide) (hcd : (x == ("__classdict__" : Str)) = false := by decide) (hb : attributeBase (.Name x p) f X.env (eval (.Name x p) X.env) = eval (.Name x p) X.env := by rfl) : EvG X S (.Attribute (.Name x p) f pos) Γ μ Q :=
  ev_fld c n (ev_name hN hv hΓ ⟨y, h, k⟩ hd hcd) hb
theorem ea_few {L : List D → Nat} {P' : List D → Mem → Prop} (k : P' [] μ) (h : L [] ≤ 16777216 := by exact few) : EvA X S [] Γ μ fun ds μ1 => L ds ≤ 16777216 ∧ P' ds μ1 := ea_nil ⟨h, k⟩
theorem isi {C : Addr} {t : Value} {b : Bool} (ty : TyD S μ d t) (e : PySem.W.kitOne S.K t (.ref C) = some b) (k : Q (.bl b) μ) (hK : X.K = S.K := by rfl) : CallG X S (.builtin "isinstance") [d, .ref C] μ Q := cg_isi hK ty e k
end
end GL
namespace GL
open PySem L2 PySem.Spec PyProof.Rows
abbrev OkS (x : Str) : Prop := PyData.strOk x = true
abbrev Sp2 := Str × Str
def OkP (p : Sp2) : Prop := OkS p.1 ∧ OkS p.2
def spD (p : Sp2) : D := .tup [.str p.1, .str p.2]
theorem eqv_str (x y : Str) : D.eqv (.str x) (.str y) = decide (x = y) := by
  simp only [D.eqv, D.py, PyData.eqv]
  exact Bool.beq_eq_decide_eq x y
theorem eqv_list {α : Type} [DecidableEq α] (f : α → D) (h : ∀ a b, D.eqv (f a) (f b) = decide (a = b)) : ∀ xs ys : List α, D.eqv (.lst (xs.map f)) (.lst (ys.map f)) = decide (xs = ys)
  | [], [] => by simp [D.eqv, D.py, D.pyA, PyData.eqv, PyData.eqvAll]
  | [], _ :: _ => by simp [D.eqv, D.py, D.pyA, PyData.eqv, PyData.eqvAll]
  | _ :: _, [] => by simp [D.eqv, D.py, D.pyA, PyData.eqv, PyData.eqvAll]
  | x :: xs, y :: ys => by
    have ih := eqv_list f h xs ys
    have h1 := h x y
    simp only [D.eqv, D.py, D.pyA, PyData.eqv, PyData.eqvAll, List.map_cons] at ih h1 ⊢
    rw [ih, h1, Bool.eq_iff_iff]
    simp
def once (ps : List Sp2) : List Sp2 := ps.foldl (fun acc p => if p ∈ acc then acc else acc ++ [p]) []
theorem take_snoc {α : Type} {l : List α} {i : Nat} {x : α} (h : l[i]? = some x) : l.take (i + 1) = l.take i ++ [x] := by
  rw [List.take_succ, h]
  rfl
theorem map_at {α : Type} {f : α → D} {l : List α} {i : Nat} {d : D} (h : (l.map f)[i]? = some d) : ∃ x, l[i]? = some x ∧ d = f x := by
  rw [List.getElem?_map] at h
  cases e : l[i]? with
  | none => rw [e] at h; cases h
  | some x => rw [e] at h; exact ⟨x, rfl, (Option.some.inj h).symm⟩
end GL
namespace GL
open PySem L2 PySem.Spec PyProof.Rows
section
variable {S : Sg} {F N H : Hp} {μ μ' : Mem}
theorem vis_perm (p : μ.Perm μ') : vis N H (adr μ') = vis N H (adr μ) := by
  funext b
  have h : b ∈ adr μ' ↔ b ∈ adr μ := ((p.map (·.1)).mem_iff).symm
  unfold vis
  by_cases hb : (N b).isSome = true ∨ b ∈ adr μ
  · rw [if_pos hb, if_pos (hb.imp id h.mpr)]
  · rw [if_neg hb, if_neg fun z => hb (z.imp id h.mp)]
theorem RelM.perm (r : RelM S F N H μ) (p : μ.Perm μ') : RelM S F N H μ' := by
  have ev : vis N H (adr μ') = vis N H (adr μ) := vis_perm p
  refine ⟨⟨r.hid, fun a ha => r.dis a (((p.map (·.1)).mem_iff).mpr ha), by rw [ev]; exact r.ext, (p.map (·.1)).nodup_iff.mp r.nd, fun q hq => ?_, r.tup⟩, r.iv⟩
  rw [ev]
  exact r.mem q (p.mem_iff.mpr hq)
end
section
variable {X : Cx} {S : Sg} {a b c e o : Expr} {es : List Expr} {sts : List Stmt} {Γ : Gm} {μ μ' : Mem} {Q : QD} {x : Str} {pos p : Pos} {d : D} {E : EG}
theorem bl_perm (hp : μ.Perm μ') (h : BlG X S sts Γ μ' E) : BlG X S sts Γ μ E := fun F N σ H r rs => h F N σ H (r.perm hp) (by rw [vis_perm hp]; exact rs)
theorem ev_lstE (h : EvA X S es Γ μ fun ds μ1 => ds.length ≤ 16777216 ∧ ∀ p, p ∉ adr μ1 → Q (.ref p) (μ1 ++ [(p, .lst ds)])) : EvG X S (.List es pos) Γ μ Q := by
  intro F N σ H r rs
  refine ex_of (pe_lst pa_ex) (h.use r rs fun vs H1 ds μ1 r1 rs1 rd q => ?_)
  refine ⟨by rw [rd.length, sizeLine_eq]; exact q.1, fun p hp => ?_⟩
  have pm : ((p, M.lst ds) :: μ1).Perm (μ1 ++ [(p, .lst ds)]) := (List.perm_append_singleton _ _).symm
  have r2 := (r1.weakF r.ext).allocM (m := .lst ds) hp (.lst rd)
  exact ⟨_, _, r2.perm pm, .ref p, q.2 p (adr_new r1.toRelM0 hp)⟩
theorem cg_listE {l : List D} (hK : X.K = S.K) (h : DrfT μ d l) (k : ∀ p, p ∉ adr μ → Q (.ref p) (μ ++ [(p, .lst l)])) : CallG X S (.type "list") [d] μ Q := fun F N H xs r rq => by
  obtain ⟨v, rfl, rv⟩ := rq.one
  obtain ⟨a, ys, rfl, hq, hs⟩ := sq_at hK h r rv
  refine cp_of call_list_of ⟨a, ys, rfl, hq, fun p hp => ?_⟩
  have pm : ((p, M.lst l) :: μ).Perm (μ ++ [(p, .lst l)]) := (List.perm_append_singleton _ _).symm
  exact ⟨_, _, (r.allocM hp (.lst hs)).perm pm, .ref p, k p (adr_new r.toRelM0 hp)⟩
theorem tg_sub {i : Expr} {vs : List Nat} {P : Gm → Mem → Prop} (h : EvG X S o Γ μ fun od μ1 => EvG X S i Γ μ1 fun id μ2 => ∃ a l k j μ3, od = .ref a ∧ id = .int k ∧ ixN l.length k = some j ∧ Upd a (.lst l) (.lst (l.set j d)) μ2 μ3 ∧ P Γ μ3)
    (ha : ∀ v, assign (.Subscript o i pos) X.env v = (do
      let ov ← holding [v] (eval o X.env)
      let iv ← holding [v, ov] (eval i X.env)
      standAt pos
      holding [v, ov, iv] (setItem ov iv v)
      release [v, ov, iv] []) := by intro _; rfl) : TgG X S vs (.Subscript o i pos) d Γ μ P := fun F N σ H v r rs rv => by
  refine gx_of (pg_sub pe_ex pe_ex set_list ha) ?_
  refine h.use r rs fun ov H1 od μ1 r1 rs1 ro q1 => ?_
  refine q1.use r1 rs1 fun iv H2 id μ2 r2 rs2 ri ⟨a, l, k, j, μ3, e1, e2, hj, u, q⟩ => ?_
  subst e1 e2
  cases ro
  cases ri
  obtain ⟨ob, e, rm⟩ := r2.find u.mem
  cases rm with
  | @lst _ xs hs =>
  refine ⟨a, xs, k, j, rfl, rfl, e, by rw [hs.length]; exact hj, rfl, Γ, μ3, (r2.weakF (r.ext.trans r1.ext)).put u (.lst (hs.set j (rv.ext (r1.ext.trans r2.ext)))), ?_, q⟩
  rw [u.adr, vis_upd (List.mem_map_of_mem u.mem)]
  exact rs2
theorem setb {tg : Expr} (h : EvG X S e Γ μ fun d μ1 => TgG X S (List.range 64) tg d Γ μ1 fun Γ' μ' => BlG X S sts Γ' μ' E) (hs : swapsWithSole [tg] e pos.line X.env = pure false := by rfl) (hw : swappedStores [tg] e X.env = pure none := by rfl)
    (h1 : (assignEach [tg] X.env).map (·.2) = [assign tg X.env] := by rfl) : BlG X S (.Assign [tg] e pos :: sts) Γ μ E := bl_cons (st_asg h hs hw h1)
theorem exb (h : EvG X S e Γ μ fun _ μ' => BlG X S sts Γ μ' E) (hs : swapsWith e none pos.line X.env = pure false := by rfl) : BlG X S (.Expr e pos :: sts) Γ μ E := bl_cons (st_expr h hs)
theorem og_fdivW {i j : Int} (c : CDivW i j) (k : Q (.int (i / j)) μ) : OpG X S (binaryOp .FloorDiv) (.int i) (.int j) μ Q := fun F N H u v r ru rv => by cases ru; cases rv; exact op_of op_fdivW ⟨i, j, rfl, rfl, c, _, μ, r, .int _, k⟩
theorem mt_join {z : Str} {xs : List Str} (hd : d = .lst (xs.map D.str)) (hz : (xs.map (·.length)).sum + xs.length * z.length ≤ 16777216) (k : Q (.str (Txt.join z xs)) μ) : MtG X S "str.join" (.str z) [d] μ Q := by
  intro F N H v vs r rv rq
  subst hd
  cases rv
  obtain ⟨w, rfl, rw'⟩ := rq.one
  cases rw' with
  | @lst a ys _ ha hs =>
  have hy : ∀ {xs : List Str} {ys : List V}, RpA S (vis N H (adr μ)) ys (xs.map D.str) → ys = xs.map V.str := by
    intro xs
    induction xs with
    | nil => intro ys h; cases h; rfl
    | cons x xs ih =>
      intro ys h
      cases h with
      | cons h t =>
      cases h
      rw [ih t]
      rfl
  have e := hy hs
  subst e
  exact ⟨_, L2.mt_join, _, ⟨z, a, xs, rfl, rfl, .inl (SqL.of (vis_le _ _ ha)), hz, _, μ, r, .str _, k⟩, fun _ _ q => q⟩
end
def PoolOk (l : List D) : Prop := (∃ n : Int, 0 ≤ n ∧ l = [.int n]) ∨
  ∃ (x k : Int) (cs : List Int), l = [.int x, .int k, .lst (cs.map D.int)] ∧ (0 ≤ x ∧ x < 65537) ∧ 0 ≤ k ∧ cs ≠ [] ∧ cs.length ≤ 63 ∧ ∀ c ∈ cs, 0 ≤ c ∧ c < 65537
def sg_take : SpG := fun ds μ Q _ => ∃ a l n, ds = [.ref a, .int n] ∧ μ = [(a, .lst l)] ∧ PoolOk l ∧ (0 < n ∧ n < 2 ^ 200) ∧ ∀ r l', 0 ≤ r → r < n → PoolOk l' → Q (.int r) [(a, .lst l')]
theorem take_mono : MonoG sg_take := fun _ _ _ _ _ _ ⟨a, l, n, h1, h2, h3, h4, q⟩ m _ => ⟨a, l, n, h1, h2, h3, h4, fun r l' a1 a2 a3 => m _ _ (q r l' a1 a2 a3)⟩
theorem ask_take {S : Sg} {a : Addr} {l : List D} {n : Int} {μ : Mem} {Q : QD} (h : PoolOk l) (hn : 0 < n ∧ n < 2 ^ 200) (q : ∀ r l', 0 ≤ r → r < n → PoolOk l' → Q (.int r) ((a, .lst l') :: μ)) : AskG S sg_take [.ref a, .int n] ((a, .lst l) :: μ) Q :=
  ⟨[(a, .lst l)], μ, .l (Split.none μ), a, l, n, rfl, rfl, h, hn, q⟩
theorem ixN0 {n : Nat} (h : 0 < n) : ixN n 0 = some 0 := by
  unfold ixN
  rw [if_pos (by decide), if_pos (by omega)]
  rfl
theorem atI_mod {cs : List Int} {k : Int} (h : cs ≠ []) (hk : 0 ≤ k) : ∃ c, c ∈ cs ∧ atI (cs.map D.int) (k % (cs.length : Int)) = some (.int c) := by
  have hl : 0 < cs.length := List.length_pos_iff.mpr h
  have h1 : 0 ≤ k % (cs.length : Int) := Int.emod_nonneg _ (by omega)
  have h2 : k % (cs.length : Int) < cs.length := Int.emod_lt_of_pos _ (by omega)
  obtain ⟨j, hj⟩ := Int.eq_ofNat_of_zero_le h1
  rw [hj] at h2 ⊢
  have h3 : j < cs.length := by omega
  refine ⟨cs[j], List.getElem_mem h3, atI_nat ?_⟩
  rw [List.getElem?_map, List.getElem?_eq_getElem h3]
  rfl
end GL
namespace GL
open PySem L2 PySem.Spec PyProof.Rows TL
abbrev cs (z : Str) : List Nat := z.cps.toList
theorem cs_len (z : Str) : z.length = (cs z).length := by
  show z.cps.size = z.cps.toList.length
  simp
theorem cs_app (x y : Str) : cs (x ++ y) = cs x ++ cs y := by
  show (x.cps ++ y.cps).toList = _
  simp
theorem cs_one (c : Nat) : cs ⟨#[c]⟩ = [c] := rfl
theorem OkS_of {z : Str} (h : ∀ c ∈ cs z, c < 1114112) : OkS z := by
  show z.cps.all (· < 0x110000) = true
  rw [← Array.all_toList]
  exact List.all_eq_true.mpr fun c hc => decide_eq_true (h c hc)
def baseC : List Nat := cs ("mnopqrstuvwxyz0123456789" : Str)
def markC : List Nat := cs ("afkdibglejch" : Str)
theorem base_len : baseC.length = 24 := by decide +kernel
theorem mark_len : markC.length = 12 := by decide +kernel
theorem base_lt : ∀ c ∈ baseC, c < 1114112 := by decide +kernel
theorem mark_lt : ∀ c ∈ markC, c < 1114112 := by decide +kernel
theorem base_mark : ∀ c ∈ baseC, c ∉ markC := by decide +kernel
theorem mark_nd : markC.Nodup := by decide +kernel
def BaseOk (z : Str) : Prop := (cs z).length ≤ 11 ∧ ∀ c ∈ cs z, c ∈ baseC
def NameOk (k : Nat) (z : Str) : Prop := ∃ x y c, cs z = x ++ c :: y ∧ markC[k]? = some c ∧ (∀ c ∈ x ++ y, c ∈ baseC) ∧ (x ++ y).length ≤ 11
theorem NameOk.ok {k : Nat} {z : Str} (h : NameOk k z) : OkS z := by
  obtain ⟨x, y, c, e, hc, hb, _⟩ := h
  refine OkS_of fun d hd => ?_
  rw [e] at hd
  rcases List.mem_append.mp hd with hd | hd
  · exact base_lt d (hb d (List.mem_append_left _ hd))
  · rcases List.mem_cons.mp hd with rfl | hd
    · exact mark_lt d (List.mem_of_getElem? hc)
    · exact base_lt d (hb d (List.mem_append_right _ hd))
theorem NameOk.len {k : Nat} {z : Str} (h : NameOk k z) : z.length ≤ 12 := by
  obtain ⟨x, y, c, e, hc, hb, hl⟩ := h
  rw [cs_len, e]
  simp only [List.length_append, List.length_cons] at hl ⊢
  omega
theorem NameOk.inj {i j : Nat} {z : Str} (h : NameOk i z) (h' : NameOk j z) : i = j := by
  obtain ⟨x, y, c, e, hc, hb, _⟩ := h
  obtain ⟨x', y', c', e', hc', hb', _⟩ := h'
  have hm : c ∈ cs z := by rw [e]; simp
  rw [e'] at hm
  have hcm : c ∈ markC := List.mem_of_getElem? hc
  have : c = c' := by
    rcases List.mem_append.mp hm with hd | hd
    · exact absurd hcm (base_mark c (hb' c (List.mem_append_left _ hd)))
    · rcases List.mem_cons.mp hd with rfl | hd
      · rfl
      · exact absurd hcm (base_mark c (hb' c (List.mem_append_right _ hd)))
  subst this
  obtain ⟨h1, e1⟩ := List.getElem?_eq_some_iff.mp hc
  obtain ⟨h2, e2⟩ := List.getElem?_eq_some_iff.mp hc'
  exact (List.getElem_inj mark_nd).mp (e1.trans e2.symm)
theorem joinL_nil : ∀ l : List (List Nat), joinL [] l = l.flatten
  | [] => rfl
  | [x] => by simp [joinL]
  | x :: y :: l => by
    have ih := joinL_nil (y :: l)
    show x ++ ([] ++ joinL [] (y :: l)) = _
    rw [ih]
    simp
theorem flat_one : ∀ xs : List Nat, (xs.map fun c => tl (⟨#[c]⟩ : Str)).flatten = xs
  | [] => rfl
  | x :: xs => by
    show [x] ++ (xs.map fun c => tl (⟨#[c]⟩ : Str)).flatten = _
    rw [flat_one xs]
    rfl
theorem join_cs (xs : List Nat) : cs (Txt.join (Str.ofString "") (xs.map fun c => (⟨#[c]⟩ : Str))) = xs := by
  rw [join_eq]
  have h := tl_join (Str.ofString "") (xs.map fun c => (⟨#[c]⟩ : Str))
  have e0 : tl (Str.ofString "") = [] := by decide +kernel
  rw [e0, joinL_nil, List.map_map] at h
  exact h.trans (flat_one xs)
theorem cutS_tl {z : Str} {n : Nat} : cs (cutS z none (some (n : Int))) = (cs z).take n := by
  show (((z.cps.toList.drop (HT.sIx z.length 0 none)).take (HT.sIx z.length z.length (some (n : Int)) - HT.sIx z.length 0 none)).toArray).toList = _
  rw [HT.sIx_none, HT.sIx_nat, List.drop_zero, Nat.sub_zero]
  show (cs z).take (min n z.length) = _
  rw [cs_len]
  by_cases h : n ≤ (cs z).length
  · rw [Nat.min_eq_left h]
  · rw [Nat.min_eq_right (by omega), List.take_of_length_le (Nat.le_refl _), List.take_of_length_le (by omega)]
theorem cutS_hd {z : Str} {n : Nat} : cs (cutS z (some (n : Int)) none) = (cs z).drop n := by
  show (((z.cps.toList.drop (HT.sIx z.length 0 (some (n : Int)))).take (HT.sIx z.length z.length none - HT.sIx z.length 0 (some (n : Int)))).toArray).toList = _
  rw [HT.sIx_none, HT.sIx_nat]
  show ((cs z).drop (min n z.length)).take (z.length - min n z.length) = _
  rw [cs_len]
  by_cases h : n ≤ (cs z).length
  · rw [Nat.min_eq_left h, List.take_of_length_le (by rw [List.length_drop]; exact Nat.le_refl _)]
  · rw [Nat.min_eq_right (by omega), List.drop_of_length_le (Nat.le_refl _), List.drop_of_length_le (by omega)]
    simp
end GL
namespace GL
open PySem L2 PySem.Spec PyProof.Rows
theorem ItOk.weak {S : Sg} {J : It} {Km Km' : Mem → Prop} {ds : List D} {Fv : Hp} (h : ItOk S J Km ds Fv) (w : ∀ μ, Km' μ → Km μ) : ItOk S J Km' ds Fv := fun N i H2 μ2 r k => h N i H2 μ2 r (w μ2 k)
def onto (acc ps : List Sp2) : List Sp2 := ps.foldl (fun acc p => if p ∈ acc then acc else acc ++ [p]) acc
theorem list_snoc {α : Type} {C : List α → Prop} (h0 : C []) (h1 : ∀ l x, C l → C (l ++ [x])) : ∀ l, C l := fun l => by
  have : ∀ l : List α, C l.reverse := fun l => by
    induction l with
    | nil => exact h0
    | cons x l ih => rw [List.reverse_cons]; exact h1 _ _ ih
  have h := this l.reverse
  rwa [List.reverse_reverse] at h
end GL
namespace GL
open PySem L2 PySem.Spec PyProof.Rows
theorem StG.mono {X : Cx} {S : Sg} {st : Stmt} {Γ : Gm} {μ : Mem} {E : EG} {R R' : Gm → Mem → Prop} (h : StG X S st Γ μ { E with nx := R }) (k : ∀ Γ' μ', R Γ' μ' → R' Γ' μ') : StG X S st Γ μ { E with nx := R' } :=
  fun F N σ H r rs => (h F N σ H r rs).mono (fun _ _ ⟨Γ', μ', r, rs, q⟩ => ⟨Γ', μ', r, rs, k _ _ q⟩) (fun _ _ h => h) (fun _ _ h => h) (fun _ _ h => h)
theorem seqP {X : Cx} {S : Sg} {st : Stmt} {sts : List Stmt} {Γ : Gm} {μ : Mem} {E : EG} (R : Gm → Mem → Prop) (h : StG X S st Γ μ { E with nx := R }) (k : ∀ Γ' μ', R Γ' μ' → BlG X S sts Γ' μ' E) : BlG X S (st :: sts) Γ μ E := bl_cons (h.mono k)
end GL
namespace GL
open PySem L2 PySem.Spec PyProof.Rows
structure FnScopeS (N P : List Str) (sc : Scope) : Prop where
  kind : sc.kind = .function
  co : sc.isCoroutine = false
  gen : sc.isGenerator = false
  nd : N.Nodup
  pre : N.take P.length = P
  par : ∀ x ∈ P, sc.names.lookup x = some .local
  nocell : ∀ y ∈ sc.names, y.2 ≠ .cell
  free : ∀ y, sc.names.lookup y = some .free → y = "__class__"
  sup : sc.names.lookup ("super" : Str) = some .globalImplicit
  cls : sc.names.lookup ("__class__" : Str) = some .free
abbrev envS (qual : Str) (scope : Scope) (L f cda cc : Addr) : Env := PySem.W.envX qual scope L f (.ref cda) [("__class__", cc)]
def cxSc (cm : Bool) (pn : List (Addr × Obj)) (P : Program) (w : World) (K : PySem.W.Frag) (mg : Str → Option Value) (base : Heap) (N : List Str) (qual : Str) (scope : Scope) (f cda cc : Addr) (A : Around) (outer : List Env) (s : Shared) (H : Hp) : Cx where
  prog := P
  w := w
  K := K
  mg := mg
  base := base
  A := A.deeper (envS qual scope s.heap.objs.size f cda cc)
  N := N
  s_0 := s
  H_0 := H
  env := envS qual scope s.heap.objs.size f cda cc
  outer := outer
  stack := envS qual scope s.heap.objs.size f cda cc :: outer
  ex := []
  calm := cm
  fn := fun _ => false
  pn := pn
  xe := fun _ _ => False
abbrev cxS := cxSc true []
theorem look_rev : ∀ {ps : List Str} {us : List Value} {i : Nat} {x : Str} {u : Value}, ps.Nodup → ps[i]? = some x → us[i]? = some u → (ps.zip us).reverse.lookup x = some u
  | [], _, _, _, _, _, h, _ => by simp at h
  | _ :: _, [], _, _, _, _, _, h => by simp at h
  | p :: ps, v :: us, 0, x, u, nd, h1, h2 => by
    simp at h1 h2
    subst h1 h2
    have hn : (ps.zip us).reverse.lookup p = none := by
      rw [List.lookup_eq_none_iff]
      intro q hq
      have : q.1 ∈ ps := (List.of_mem_zip (List.mem_reverse.mp hq)).1
      exact bne_iff_ne.mpr fun e => (List.nodup_cons.mp nd).1 (e ▸ this)
    rw [List.zip_cons_cons, List.reverse_cons, List.lookup_append, hn]
    simp [List.lookup]
  | p :: ps, v :: us, i + 1, x, u, nd, h1, h2 => by
    have ih := look_rev (i := i) (List.nodup_cons.mp nd).2 (by simpa using h1) (by simpa using h2)
    rw [List.zip_cons_cons, List.reverse_cons, List.lookup_append, ih]
    rfl
structure FunS (P : Program) (K : PySem.W.Frag) (x qual : Str) (params : Arguments) (body : List Stmt) (scope : Scope) (f : Addr) (fd : FuncData) (C cda cc : Addr) : Prop where
  ex : ∃ (oc : Value) (od : Option Addr) (kV doc pm : Value) (an : Option Addr) (ct : Value) (osl : Array (Option Value)),
    fd = PySem.W.ksFn x qual params body scope .none kV doc pm an (.ref cda) ct cc ∧ K.lookup f = some ⟨oc, od, .func fd, osl⟩ ∧ PySem.W.codeIn K (.ref cda) qual = true
  code : ∃ (ccl : Value) (cdd : Option Addr) (vs : Array Value) (ccs : Array (Option Value)) (file : Str) (tf : Tok), K.lookup cda = some ⟨ccl, cdd, .fields vs, ccs⟩ ∧ vs[2]? = some (.str file tf) ∧ ((P.main.file : Str) == file) = true
  cell : ∃ (cl : Value) (cld : Option Addr) (csl : Array (Option Value)), K.lookup cc = some ⟨cl, cld, .cell (some (.ref C)), csl⟩
  top : (P.main.scope.names.lookup ("super" : Str)).isSome = false
section
variable {P : Program} {w : World} {K : PySem.W.Frag} {mg : Str → Option Value} {base : Heap} {N ps : List Str} {x qual : Str} {params : Arguments} {body : List Stmt} {scope : Scope} {f C cda cc : Addr} {fd : FuncData} {A : Around} {outer : List Env} {s : Shared} {H : Hp}
theorem free_only {l : List (Str × NameKind)} (h : ∀ y ∈ l, y.2 = .free → y.1 = "__class__") : ∀ y, l.lookup y = some .free → y = "__class__" := fun y e => h (y, .free) (PySem.mem_of_lookup e) rfl
theorem FunS.bindsS (F : FunS P K x qual params body scope f fd C cda cc)
    (h : ∀ (kV doc pm : Value) (an : Option Addr) (cdv ct : Value) (us : List Value), us.length = ps.length → bindArgs (PySem.W.ksFn x qual params body scope .none kV doc pm an cdv ct cc) ⟨us, []⟩ = pure (ps.zip us)) : Binds K fd ps [] := by
  obtain ⟨oc, od, kV, doc, pm, an, ct, osl, rfl, _⟩ := F.ex
  exact .all (h kV doc pm an (.ref cda) ct)
theorem FunS.cellAt (F : FunS P K x qual params body scope f fd C cda cc) {h : Heap} (k : K.In h) : h.IsCell cc (some (.ref C)) := by
  obtain ⟨cl, cld, csl, e⟩ := F.cell
  exact ⟨_, k _ _ e, rfl⟩
theorem inv_startS (F : FunS P K x qual params body scope f fd C cda cc) (S : FnScopeS N ps scope) {cm : Bool} {pn : List (Addr × Obj)} (hd : cm = true → A.handled = none) (hpn : ∀ p ∈ pn, L2H.PinOk outer H s p) (e0 : Env0 P w K mg base A outer s H) {us : List Value} {vs : List V} (hl : vs.length = ps.length) (r : Vals vs us) {h1 : Heap} {tk : Nat}
    (hns : h1.Ns s.heap.objs.size (fun y => (ps.zip us).reverse.lookup y)) (hk : ∀ b o, s.heap.get? b = some o → h1.get? b = some o) :
    Inv (cxSc cm pn P w K mg base N qual scope f cda cc A outer s H) [] (L2.start N vs) H { s with heap := h1, toks := tk } := by
  have hpl : ps.length ≤ N.length := by have := congrArg List.length S.pre; rw [List.length_take] at this; omega
  have noA : ∀ b : Addr, b ∉ (cxSc cm pn P w K mg base N qual scope f cda cc A outer s H).ex := fun b z => absurd (show b ∈ ([] : List Addr) from z) (by simp)
  have look : ∀ {y : Str} {c : Addr}, (cxSc cm pn P w K mg base N qual scope f cda cc A outer s H).env.cells.lookup y = some c → y = "__class__" ∧ c = cc := fun {y c} e => by
    have e : List.lookup y [(("__class__" : Str), cc)] = some c := e
    by_cases hy : y = "__class__"
    · subst hy
      simp [List.lookup] at e
      exact ⟨rfl, e.symm⟩
    · have hb : (y == ("__class__" : Str)) = false := beq_eq_false_iff_ne.mpr hy
      simp [List.lookup, hb] at e
  have kin : K.In s.heap := e0.mod.kin.keeps fun b o e => (e0.bs b o e).1
  have ccell : base.get? cc ≠ none ∧ H cc = none := by
    obtain ⟨cl, cld, csl, e⟩ := F.cell
    have hb := e0.mod.kin _ _ e
    exact ⟨by rw [hb]; simp, (e0.bs _ _ hb).2⟩
  have cab : cc < s.heap.objs.size := (F.cellAt kin).lt
  refine ⟨⟨e0.mod, S.kind, rfl, rfl, Nat.le_refl _, fun y z c h1 h2 => by rw [(look h1).1, (look h2).1], fun y hy => ?_, fun y c h _ => (by cases h), hd, Around.frames_deeper e0.frames, .inr ⟨rfl, rfl⟩, fun b z => absurd z (noA b), e0.bs, e0.bsz, fun b _ _ => noA b, fun b z => absurd z (noA b), e0.funs, e0.frf⟩,
    rfl, e0.bare, Un.kept hk, ⟨_, hns, fun i y v h1 h2 h3 => ?_⟩, fun y c h => ⟨some (.ref C), by rw [(look h).2]; exact (F.cellAt kin).keeps hk⟩, e0.hok.fresh (Nat.le_refl _), fun y c h => by rw [(look h).2]; exact ccell.2, fun p hp => (by
      have hp : p ∈ pn := by simpa using (show p ∈ pn ++ [] from hp)
      have q := hpn p hp
      exact ⟨hk p.1 p.2 q.get, q.free, Nat.ne_of_lt (Heap.lt_size q.get), q.nofs, q.nocell⟩), e0.hok.kept hk, ?_⟩
  · have hy : scope.names.lookup y = some .cell ∨ scope.names.lookup y = some .free := hy
    rcases hy with hy | hy
    · exact absurd rfl (S.nocell _ (PySem.mem_of_lookup hy))
    · exact ⟨cc, by rw [S.free y hy]; rfl⟩
  · have hi : i < vs.length := by
      unfold L2.start at h2
      by_cases hi : i < vs.length
      · exact hi
      · rw [List.getElem?_append_right (by simpa using hi), List.getElem?_replicate] at h2
        split at h2 <;> cases h2
    have ha : vs[i]? = some v := by
      unfold L2.start at h2
      rw [List.getElem?_append_left (by simpa using hi), List.getElem?_map] at h2
      cases e : vs[i]? with
      | none => rw [e] at h2; cases h2
      | some a => rw [e] at h2; cases h2; rfl
    obtain ⟨u, hu, rv⟩ := r.get ha
    have hp : ps[i]? = some y := by rw [← S.pre, List.getElem?_take_of_lt (by omega)]; exact h1
    have ndP : ps.Nodup := by rw [← S.pre]; exact S.nd.sublist (List.take_sublist _ _)
    exact ⟨u, rv, .inl ⟨S.par y (List.mem_of_getElem? hp), look_rev ndP hp hu⟩⟩
  · unfold L2.start
    show _ = N.length
    rw [List.length_append, List.length_map, List.length_replicate]
    omega
end
end GL
namespace GL
open PySem L2 PySem.Spec PyProof.Rows
structure ExcCls (K : PySem.W.Frag) (C : Addr) : Prop where
  T : OexC K C
  sup : PySem.W.ks_superIn K C C "__init__" = some (some (.builtin "ValueError.__init__"))
  sub : PySem.W.subIn K (.ref C) (.type "ValueError") = some true
  mro : PySem.W.mroIn K C (.ref C) = some true
  stat : PySem.W.nsIn K cStatics "thirdparty.any" = some none
section
variable {P : Program} {w : World} {A : Around} {E : Value → Shared → Prop} {h : Heap} {g : Array GenState} {d : Drawn} {t : Nat} {os : OsState} {K : PySem.W.Frag} {C a u t0 : Addr}
end
section
variable {P : Program} {w : World} {K : PySem.W.Frag} {mg : Str → Option Value} {base : Heap} {N ps : List Str} {x qual : Str} {params : Arguments} {body : List Stmt} {scope : Scope} {f C cda cc : Addr} {fd : FuncData} {A : Around} {outer : List Env} {s0 : Shared} {H0 : Hp}
variable {pins pn : List (Addr × Obj)} {cm : Bool} {σ : L2.St} {H : Hp} {s : Shared} {a : Addr}
end
end GL
namespace GL
open PySem L2 PySem.Spec PyProof.Rows
def spEx (S : Sg0) (c : Nat) (chk : List V → Prop) : Sp := fun vs H Q _ => ∃ a ws, vs = .ref a :: ws ∧ ws.length = (S.nms c).length ∧ chk ws ∧ H a = some (exo a (S.cls c) none) ∧
  ∀ d H', H d = none → d ≠ a → H' a = some (exo a (S.cls c) (some d)) → H' d = some (exd d ((S.nms c).zip ws.reverse)) → (∀ b, b ≠ a → b ≠ d → H' b = H b) → Q .non H'
def txts (ws : List V) : Prop := ∀ v ∈ ws, ∃ z : Str, v = .str z ∧ z.length ≤ 10000
def anyV (_ : List V) : Prop := True
structure ExcP (P : Program) (w : World) (K : PySem.W.Frag) (mg : Str → Option Value) (base : Heap) (S : Sg0) (c : Nat) (fI : Addr) (fd : FuncData) (ps : List Str) (chk : List V → Prop) : Prop where
  T : OexC K (S.cls c)
  iC : PySem.W.findIn K (.ref (S.cls c)) "__init__" = some (some (.ref fI))
  tI : PySem.W.typeIn K (.ref fI) = some (.type "function")
  hb : Binds K fd ps []
  F : FnOk P w K mg base CX0 1 fI fd ps (spEx S c chk)
section
variable {X : Cx} {S : Sg} {c : Nat} {fI : Addr} {fd : FuncData} {ps : List Str} {chk : List V → Prop} {x : Str} {p pos pos' : Pos} {e : Expr} {es : List Expr} {Γ : Gm} {μ : Mem} {E : EG}
end
section
variable {X : Cx} {S : Sg} {a dd : Addr} {c : Nat} {l : List D} {oe : Obj} {cls : Value} {d : Option Addr} {pn : List (Addr × Obj)} {e : Expr} {Γ : Gm} {μ : Mem} {Q : QD} {pos : Pos} {n : Str}
end
end GL
namespace GL
open PySem L2 PySem.Spec PyProof.Rows
abbrev Cl3 := Value × Nat × (Addr → Value → Option Addr → TS)
def offE (D : Ends) (i : Nat) : Ends := { nx := fun τ G => D.nx (τ.set i none) G, rt := D.rt, bk := fun τ G => D.bk (τ.set i none) G, ct := fun τ G => D.ct (τ.set i none) G }
def wMs (K : PySem.W.Frag) (W0 : WX) (D : Ends) : List Cl3 → WX
  | [] => W0
  | (c, i, ts) :: r => fun cls d τ G => ∃ b, PySem.W.exmOne K cls c = some b ∧ (b = true → ∀ a, G a = none → ts a cls d (offE D i) (τ.set i (some (.ref a))) G) ∧ (b = false → wMs K W0 D r cls d τ G)
inductive Hd3 (X : Cx) : List ExceptHandler → List Cl3 → Prop
  | nil : Hd3 X [] []
  | cons {x n : Str} {c : Value} {i : Nat} {ts : Addr → Value → Option Addr → TS} {st : Stmt} {suite : List Stmt} {np pp : Pos} {hds : List ExceptHandler} {l : List Cl3} (hi : X.N[i]? = some n) (hn : X.env.kindOf n = some .local) (hc : Names X x c)
      (hb : ∀ (a : Addr) (oe : Obj) (cls : Value) (d : Option Addr) (pn : List (Addr × Obj)), Zc cls d oe → (∃ vs, oe.data = .fields vs) → PSs (X.suite a ((a, oe) :: pn)) (st :: suite) (ts a cls d)) (r : Hd3 X hds l) :
      Hd3 X (.ExceptHandler (some (.Name x np)) (some n) (st :: suite) pp :: hds) ((c, i, ts) :: l)
section
variable {X : Cx} {body : List Stmt} {h0 : ExceptHandler} {hds : List ExceptHandler} {l : List Cl3} {pos : Pos} {tb : WX → TS} {W0 : WX}
end
end GL
namespace GL
open PySem L2 PySem.Spec PyProof.Rows
abbrev EG.off (E : EG) (i : Nat) : EG := { nx := fun Γ μ => E.nx (Γ.set i none) μ, rt := E.rt, bk := fun Γ μ => E.bk (Γ.set i none) μ, ct := fun Γ μ => E.ct (Γ.set i none) μ }
def hdlQ (X : Cx) (S : Sg0) (E : EG) (suite : List Stmt) (c : Value) (i : Nat) (q : QE) : QE := fun k ds μ => ∃ b, PySem.W.exmOne X.K (.ref (S.cls k)) c = some b ∧
  (b = true → ∀ (a dd : Addr) (oe : Obj) (pn : List (Addr × Obj)), Zc (.ref (S.cls k)) (some dd) oe → (∃ vs, oe.data = .fields vs) → BlG (X.suite a ((a, oe) :: pn)) S.nx suite ((List.replicate X.N.length none).set i (some (.cau a dd k ds))) μ (E.off i)) ∧ (b = false → q k ds μ)
def tsG (X : Cx) (suite : List Stmt) : Addr → Value → Option Addr → TS := fun a cls d D σ H => ∀ (oe : Obj) (pn : List (Addr × Obj)), Zc cls d oe → (∃ vs, oe.data = .fields vs) → BXt (X.suite a ((a, oe) :: pn)) suite D σ H
inductive HdG (X : Cx) (S : Sg) (E : EG) : List ExceptHandler → List Cl3 → QE → Prop
  | nil : HdG X S E [] [] S.qx
  | cons {x n : Str} {c : Value} {i : Nat} {st : Stmt} {suite : List Stmt} {np pp : Pos} {hds : List ExceptHandler} {l : List Cl3} {q : QE} (hi : X.N[i]? = some n) (hn : X.env.kindOf n = some .local) (hc : Names X x c) (r : HdG X S E hds l q) :
      HdG X S E (.ExceptHandler (some (.Name x np)) (some n) (st :: suite) pp :: hds) ((c, i, tsG X (st :: suite)) :: l) (hdlQ X S E (st :: suite) c i q)
theorem BXt.mono {X : Cx} {sts : List Stmt} {D D' : Ends} {σ : L2.St} {H : Hp} (h : BXt X sts D σ H) (h1 : ∀ σ H, D.nx σ H → D'.nx σ H) (h2 : ∀ v H, D.rt v H → D'.rt v H) (h3 : ∀ σ H, D.bk σ H → D'.bk σ H) (h4 : ∀ σ H, D.ct σ H → D'.ct σ H) : BXt X sts D' σ H := ⟨fun pins s I =>
  thn (h pins s I) fun f s' q => by
    cases f with
    | next => obtain ⟨σ', H', I', q⟩ := q; exact ⟨σ', H', I', h1 _ _ q⟩
    | brk => obtain ⟨σ', H', I', q⟩ := q; exact ⟨σ', H', I', h3 _ _ q⟩
    | cont => obtain ⟨σ', H', I', q⟩ := q; exact ⟨σ', H', I', h4 _ _ q⟩
    | ret u => obtain ⟨v, σ', H', I', r, q⟩ := q; exact ⟨v, σ', H', I', r, h2 _ _ q⟩⟩
theorem rel_none {S : Sg0} {Hv : Hp} : ∀ {σ : L2.St} {n : Nat}, σ.length = n → RelS S Hv σ (List.replicate n none)
  | [], 0, _ => .nil
  | [], n + 1, h => by simp at h
  | v :: σ, 0, h => by simp at h
  | v :: σ, n + 1, h => .cons (fun d hd => by cases hd) (rel_none (by simpa using h))
section
variable {X : Cx} {S : Sg} {E : EG} {hds : List ExceptHandler} {l : List Cl3} {q : QE} {body : List Stmt} {Γ : Gm} {μ : Mem} {pos : Pos}
theorem HdG.wish {F N : Hp} (h : HdG X S E hds l q) (iv : S.iv F N) {k : Nat} {dd : Addr} {vs : List V} {ds : List D} {μ : Mem} {H : Hp} {σ : L2.St} (hd : H dd = some (.xd ((S.nms k).zip vs))) (hl : vs.length = (S.nms k).length) (ra : RpA S (vis N H (adr μ)) vs ds) (r : RelM0 S F N H μ) (n1 : N dd = none) (n2 : dd ∉ adr μ)
    (hσ : σ.length = X.N.length) (hq : q k ds μ) : wMs X.K (fun cls d _ H => S.wx cls d H) (E.ends S F N) l (.ref (S.cls k)) (some dd) σ H := by
  induction h with
  | nil => exact iv _ _ _ ⟨k, dd, vs, ds, μ, rfl, rfl, hd, hl, ra, r, n1, n2, hq⟩
  | @cons x n c i st suite np pp hds l q hi hn hc r' ih =>
    obtain ⟨b, e, h1, h2⟩ := hq
    refine ⟨b, e, fun hb a ha oe pn hz hf => ?_, fun hb => ih (h2 hb)⟩
    have rs := RelS.set (Rp.cau (a := a) (vis_mk hd n1 n2) hl ra) i (rel_none (S := S) hσ)
    refine BXt.mono (h1 hb a dd oe pn hz hf F N _ H ⟨r, nx_iv⟩ rs) (fun σ' H' ⟨Γ', μ', r6, rs6, z⟩ => ?_) (fun v H' ⟨d', μ', r6, rd, z⟩ => ?_) (fun σ' H' ⟨Γ', μ', r6, rs6, z⟩ => ?_) (fun σ' H' ⟨Γ', μ', r6, rs6, z⟩ => ?_)
    · exact ⟨_, μ', ⟨r6.toRelM0, iv⟩, RelS.setN i rs6, z⟩
    · exact ⟨d', μ', ⟨r6.toRelM0, iv⟩, rd, z⟩
    · exact ⟨_, μ', ⟨r6.toRelM0, iv⟩, RelS.setN i rs6, z⟩
    · exact ⟨_, μ', ⟨r6.toRelM0, iv⟩, RelS.setN i rs6, z⟩
end
end GL
namespace GL
open PySem L2 PySem.Spec PyProof.Rows
def kD : Key → D
  | .inl i => .int i
  | .inr x => .str x
section
variable {κ : Type} [DecidableEq κ]
def valD (kvs : List (κ × D)) (k : κ) : Option D := (kvs.find? fun kv => decide (kv.1 = k)).map (·.2)
def putKD (kvs : List (κ × D)) (k : κ) (v : D) : List (κ × D) := if (kvs.any fun kv => decide (kv.1 = k)) = true then kvs.map (fun kv => if kv.1 = k then (kv.1, v) else kv) else kvs ++ [(k, v)]
variable {S : Sg0} {H : Hp}
theorem RpK.val : ∀ {vs : List (κ × V)} {kvs : List (κ × D)} (k : κ), RpK S H vs kvs → (∃ v d, valV vs k = some v ∧ valD kvs k = some d ∧ Rp S H v d) ∨ (valV vs k = none ∧ valD kvs k = none)
  | _, _, _, .nil => .inr ⟨rfl, rfl⟩
  | _, _, k, @RpK.cons _ _ _ j v d vs kvs r t => by
    by_cases e : j = k
    · refine .inl ⟨v, d, ?_, ?_, r⟩
      · unfold valV; rw [List.find?_cons_of_pos (by simp [e])]; rfl
      · unfold valD; rw [List.find?_cons_of_pos (by simp [e])]; rfl
    · have h1 : valV ((j, v) :: vs) k = valV vs k := by unfold valV; rw [List.find?_cons_of_neg (by simp [e])]
      have h2 : valD ((j, d) :: kvs) k = valD kvs k := by unfold valD; rw [List.find?_cons_of_neg (by simp [e])]
      rw [h1, h2]
      exact RpK.val k t
theorem RpK.length : ∀ {vs : List (κ × V)} {kvs : List (κ × D)}, RpK S H vs kvs → vs.length = kvs.length
  | _, _, .nil => rfl
  | _, _, .cons _ t => by rw [List.length_cons, List.length_cons, RpK.length t]
theorem RpK.any : ∀ {vs : List (κ × V)} {kvs : List (κ × D)} (k : κ), RpK S H vs kvs → (vs.any fun kv => decide (kv.1 = k)) = kvs.any fun kv => decide (kv.1 = k)
  | _, _, _, .nil => rfl
  | _, _, k, .cons _ t => by rw [List.any_cons, List.any_cons, RpK.any k t]
theorem RpK.mapK {v : V} {d : D} {k : κ} (r : Rp S H v d) : ∀ {vs : List (κ × V)} {kvs : List (κ × D)}, RpK S H vs kvs → RpK S H (vs.map (fun kv => if kv.1 = k then (kv.1, v) else kv)) (kvs.map (fun kv => if kv.1 = k then (kv.1, d) else kv))
  | _, _, .nil => .nil
  | _, _, @RpK.cons _ _ _ j w e vs kvs r' t => by
    rw [List.map_cons, List.map_cons]
    by_cases h : j = k
    · rw [if_pos (show (j, w).1 = k from h), if_pos (show (j, e).1 = k from h)]
      exact .cons r (RpK.mapK r t)
    · rw [if_neg (show ¬ (j, w).1 = k from h), if_neg (show ¬ (j, e).1 = k from h)]
      exact .cons r' (RpK.mapK r t)
theorem RpK.app {v : V} {d : D} {k : κ} (r : Rp S H v d) : ∀ {vs : List (κ × V)} {kvs : List (κ × D)}, RpK S H vs kvs → RpK S H (vs ++ [(k, v)]) (kvs ++ [(k, d)])
  | _, _, .nil => .cons r .nil
  | _, _, .cons r' t => .cons r' (RpK.app r t)
theorem RpK.put {v : V} {d : D} {k : κ} (r : Rp S H v d) {vs : List (κ × V)} {kvs : List (κ × D)} (h : RpK S H vs kvs) : RpK S H (putK vs k v) (putKD kvs k d) := by
  unfold putK putKD
  rw [h.any k]
  split
  · exact h.mapK r
  · exact h.app r
theorem RpK.get {k : κ} {d : D} : ∀ {vs : List (κ × V)} {kvs : List (κ × D)} {i : Nat}, RpK S H vs kvs → kvs[i]? = some (k, d) → ∃ v, vs[i]? = some (k, v) ∧ Rp S H v d
  | _, _, _, .nil, e => by simp at e
  | _, _, 0, .cons r _, e => by
    simp at e
    obtain ⟨rfl, rfl⟩ := e
    exact ⟨_, by simp, r⟩
  | _, _, i + 1, .cons _ t, e => by
    obtain ⟨v, h1, h2⟩ := RpK.get (k := k) (d := d) (i := i) t (by simpa using e)
    exact ⟨v, by simpa using h1, h2⟩
end
theorem kV_of {S : Sg0} {H : Hp} {k : Key} {v : V} (r : Rp S H v (kD k)) : v = kV k := by
  cases k <;> cases r <;> rfl
section
variable {X : Cx} {S : Sg} {o e f : Expr} {es : List Expr} {kk : Nat} {Γ : Gm} {μ : Mem} {Q : QD} {pos p1 p2 apos cpos : Pos} {d : D}
end
end GL
namespace GL
open PySem L2 PySem.Spec PyProof.Rows PySem.W PySem.Calls
def ItiT (d : Addr) (o : Obj) (kvs : List (List L2.Key × V)) : It :=
  ⟨fun i H => H d = some (.frz o (.dT kvs)) ∧ i < kvs.length, fun i H x H' => ∃ T k v q, kvs[i]? = some (k, v) ∧ x = .ref T ∧ H T = none ∧ H q = some (.tup (k.map kV)) ∧ H' = upd H T (.tup [.ref q, v]), fun i H => H d = some (.frz o (.dT kvs)) ∧ kvs.length ≤ i⟩
section
variable {X : Cx} {pins : List (Addr × Obj)} {σ : L2.St} {H : Hp} {s : Shared} {d : Addr} {o : Obj}
def iItemsT (td : TE) : TI := fun σ H R => td σ H fun x H1 => ∃ d o kvs, x = .ref d ∧ H1 d = some (.frz o (.dT kvs)) ∧ R (ItiT d o kvs) H1
end
section
variable {X : Cx} {S : Sg} {e : Expr} {Γ : Gm} {μ : Mem} {R : RI} {a : Addr} {ob : Obj} {kvs : List (List L2.Key × D)} {vs : List (List L2.Key × V)} {elts : List Expr} {kk : Nat} {tpos apos cpos : Pos}
end
end GL
namespace GL
open PySem L2 PySem.Spec PyProof.Rows
section
variable {S : Sg} {F N H : Hp} {μ μ' : Mem}
theorem sub_vis (s : μ'.Sublist μ) : Ex (vis N H (adr μ)) (vis N H (adr μ')) := fun b o e => by
  obtain ⟨h1, h2, h3⟩ := vis_in e
  exact vis_mk h3 h1 fun z => h2 ((s.map (·.1)).subset z)
theorem RelM.drop (r : RelM S F N H μ) (s : μ'.Sublist μ) : RelM S F N H μ' :=
  ⟨⟨r.hid, fun a ha => r.dis a ((s.map (·.1)).subset ha), r.ext.trans (sub_vis s), r.nd.sublist (s.map (·.1)), fun p hp => by
    obtain ⟨o, h1, h2⟩ := r.mem p (s.subset hp)
    exact ⟨o, h1, h2.ext (sub_vis s)⟩, r.tup⟩, r.iv⟩
end
section
variable {X : Cx} {S : Sg} {e : Expr} {sts : List Stmt} {st : Stmt} {Γ : Gm} {μ μ' : Mem} {Q : QD} {E : EG}
end
end GL
namespace GL
open PySem L2
def notComp : Expr → Bool | .ListComp _ _ _ _ => false | .SetComp _ _ _ _ => false | .DictComp _ _ _ _ _ => false | _ => true
theorem swaps_no {e : Expr} {t : Option Expr} {l : Nat} {env : Env} (h : notComp e = true) : swapsWith e t l env = pure false := by
  cases e <;> first | rfl | exact nomatch h
end GL
namespace GL
open PySem L2 PySem.Spec PyProof.Rows
mutual
theorem D.ok_up : ∀ {n m : Nat} {d : D}, D.ok n d = true → n ≤ m → D.ok m d = true
  | n, m, .non, _, _ => by cases m <;> rfl
  | n, m, .bl b, _, _ => by cases m <;> rfl
  | n, m, .int i, _, _ => by cases m <;> rfl
  | n, m, .str x, h, _ => by cases n <;> cases m <;> exact h
  | 0, m, .lst l, h, _ => by simp [D.ok] at h
  | n + 1, 0, .lst l, _, hm => by omega
  | n + 1, m + 1, .lst l, h, hm => by
    have h' : D.okA n l = true := by simpa only [D.ok] using h
    simp only [D.ok]
    exact D.okA_up h' (by omega)
  | 0, m, .tup l, h, _ => by simp [D.ok] at h
  | n + 1, 0, .tup l, _, hm => by omega
  | n + 1, m + 1, .tup l, h, hm => by
    have h' : D.okA n l = true := by simpa only [D.ok] using h
    simp only [D.ok]
    exact D.okA_up h' (by omega)
  | n, m, .obj c l, h, _ => by cases n <;> simp [D.ok] at h
  | n, m, .ref a, h, _ => by cases n <;> simp [D.ok] at h
  | n, m, .scr a, h, _ => by cases n <;> simp [D.ok] at h
  | n, m, .ty a, h, _ => by cases n <;> simp [D.ok] at h
  | n, m, .dK a b, h, _ => by cases n <;> simp [D.ok] at h
  | n, m, .dT a b, h, _ => by cases n <;> simp [D.ok] at h
  | n, m, .exc a b, h, _ => by cases n <;> simp [D.ok] at h
  | n, m, .cau a b c d, h, _ => by cases n <;> simp [D.ok] at h
  | n, m, .lsr a b, h, _ => by cases n <;> simp [D.ok] at h
  | n, m, .idn a b, h, _ => by cases n <;> simp [D.ok] at h
theorem D.okA_up : ∀ {n m : Nat} {l : List D}, D.okA n l = true → n ≤ m → D.okA m l = true
  | n, m, [], _, _ => by simp [D.okA]
  | n, m, d :: l, h, hm => by
    have h' : D.ok n d = true ∧ D.okA n l = true := by simpa [D.okA] using h
    simp only [D.okA, Bool.and_eq_true]
    exact ⟨D.ok_up h'.1 hm, D.okA_up h'.2 hm⟩
end
class Rpd (α : Type) where
  rp : α → D
abbrev rp {α : Type} [Rpd α] (x : α) : D := Rpd.rp x
class Dt (α : Type) [DecidableEq α] extends Rpd α where
  dep : Nat
  dok : ∀ x : α, D.ok dep (rp x) = true
  deq : ∀ x y : α, D.eqv (rp x) (rp y) = decide (x = y)
class Nn (α : Type) [DecidableEq α] [Dt α] : Prop where
  nn : ∀ x : α, D.eqv .non (Rpd.rp x) = false ∧ D.eqv (Rpd.rp x) .non = false
abbrev Nm := {x : Str // OkS x ∧ x.length ≤ 1000}
structure T3 (α β γ : Type) where
  a : α
  b : β
  c : γ
deriving DecidableEq
structure T4 (α β γ δ : Type) where
  a : α
  b : β
  c : γ
  d : δ
deriving DecidableEq
structure Tu (α : Type) where
  l : List α
deriving DecidableEq
instance : Rpd Int := ⟨.int⟩
instance : Rpd Bool := ⟨.bl⟩
instance : Rpd Unit := ⟨fun _ => .non⟩
instance : Rpd Nm := ⟨fun x => .str x.1⟩
section
variable {α β γ δ : Type}
instance [Rpd α] : Rpd (List α) := ⟨fun l => .lst (l.map rp)⟩
instance [Rpd α] : Rpd (Tu α) := ⟨fun l => .tup (l.l.map rp)⟩
instance [Rpd α] [Rpd β] : Rpd (α × β) := ⟨fun x => .tup [rp x.1, rp x.2]⟩
instance [Rpd α] [Rpd β] [Rpd γ] : Rpd (T3 α β γ) := ⟨fun x => .tup [rp x.a, rp x.b, rp x.c]⟩
instance [Rpd α] [Rpd β] [Rpd γ] [Rpd δ] : Rpd (T4 α β γ δ) := ⟨fun x => .tup [rp x.a, rp x.b, rp x.c, rp x.d]⟩
instance [Rpd α] : Rpd (Option α) := ⟨fun x => match x with | none => .non | some y => rp y⟩
end
theorem eqv_tup0 {d e : D} {l k : List D} : D.eqv (.tup (d :: l)) (.tup (e :: k)) = (D.eqv d e && D.eqv (.tup l) (.tup k)) := by
  simp [D.eqv, D.py, D.pyA, PyData.eqv, PyData.eqvAll]
theorem eqv_tupN : D.eqv (.tup []) (.tup []) = true := by
  simp [D.eqv, D.py, D.pyA, PyData.eqv, PyData.eqvAll]
theorem eqv_tuple {α : Type} [DecidableEq α] (f : α → D) (h : ∀ a b, D.eqv (f a) (f b) = decide (a = b)) : ∀ xs ys : List α, D.eqv (.tup (xs.map f)) (.tup (ys.map f)) = decide (xs = ys)
  | [], [] => by simp [D.eqv, D.py, D.pyA, PyData.eqv, PyData.eqvAll]
  | [], _ :: _ => by simp [D.eqv, D.py, D.pyA, PyData.eqv, PyData.eqvAll]
  | _ :: _, [] => by simp [D.eqv, D.py, D.pyA, PyData.eqv, PyData.eqvAll]
  | x :: xs, y :: ys => by
    have ih := eqv_tuple f h xs ys
    have h1 := h x y
    simp only [D.eqv, D.py, D.pyA, PyData.eqv, PyData.eqvAll, List.map_cons] at ih h1 ⊢
    rw [ih, h1, Bool.eq_iff_iff]
    simp
theorem and_dec {p q : Prop} [Decidable p] [Decidable q] : (decide p && decide q) = decide (p ∧ q) := by
  by_cases h : p <;> by_cases k : q <;> simp [h, k]
theorem eqv_int (x y : Int) : D.eqv (.int x) (.int y) = decide (x = y) := by
  simp only [D.eqv, D.py, PyData.eqv]
  exact Bool.beq_eq_decide_eq x y
instance : Dt Int where
  dep := 0
  dok _ := rfl
  deq := eqv_int
instance : Dt Bool where
  dep := 0
  dok _ := rfl
  deq x y := by
    show PyData.eqv (.bool x) (.bool y) = _
    cases x <;> cases y <;> rfl
instance : Dt Nm where
  dep := 0
  dok x := x.2.1
  deq x y := by
    refine (eqv_str x.1 y.1).trans (decide_eq_decide.mpr ⟨fun h => Subtype.ext h, fun h => by rw [h]⟩)
section
variable {α β γ δ : Type} [DecidableEq α] [DecidableEq β] [DecidableEq γ] [DecidableEq δ]
theorem okA_map {f : α → D} {n : Nat} (h : ∀ x, D.ok n (f x) = true) (l : List α) : D.okA n (l.map f) = true := by
  rw [D.okA_all]
  intro d hd
  obtain ⟨x, _, rfl⟩ := List.mem_map.mp hd
  exact h x
instance [Dt α] : Dt (List α) where
  dep := Dt.dep α + 1
  dok l := by
    show D.okA (Dt.dep α) (l.map rp) = true
    exact okA_map (fun x => Dt.dok x) l
  deq := eqv_list _ Dt.deq
instance [Dt α] : Dt (Tu α) where
  dep := Dt.dep α + 1
  dok l := by
    show D.okA (Dt.dep α) (l.l.map rp) = true
    exact okA_map (fun x => Dt.dok x) l.l
  deq x y := by
    refine (eqv_tuple _ Dt.deq x.l y.l).trans (decide_eq_decide.mpr ⟨fun h => ?_, fun h => by rw [h]⟩)
    cases x
    cases y
    exact congrArg Tu.mk h
instance [Dt α] [Dt β] : Dt (α × β) where
  dep := max (Dt.dep α) (Dt.dep β) + 1
  dok x := by
    show D.okA (max (Dt.dep α) (Dt.dep β)) [rp x.1, rp x.2] = true
    rw [D.okA_all]
    intro d hd
    rcases List.mem_cons.mp hd with rfl | hd
    · exact D.ok_up (Dt.dok x.1) (by omega)
    · cases List.mem_singleton.mp hd
      exact D.ok_up (Dt.dok x.2) (by omega)
  deq x y := by
    show D.eqv (.tup [rp x.1, rp x.2]) (.tup [rp y.1, rp y.2]) = _
    rw [eqv_tup0, eqv_tup0, eqv_tupN, Dt.deq, Dt.deq, Bool.and_true, and_dec]
    exact decide_eq_decide.mpr Prod.ext_iff.symm
instance [Dt α] [Dt β] [Dt γ] : Dt (T3 α β γ) where
  dep := max (Dt.dep α) (max (Dt.dep β) (Dt.dep γ)) + 1
  dok x := by
    show D.okA (max (Dt.dep α) (max (Dt.dep β) (Dt.dep γ))) [rp x.a, rp x.b, rp x.c] = true
    rw [D.okA_all]
    intro d hd
    rcases List.mem_cons.mp hd with rfl | hd
    · exact D.ok_up (Dt.dok x.a) (by omega)
    rcases List.mem_cons.mp hd with rfl | hd
    · exact D.ok_up (Dt.dok x.b) (by omega)
    · cases List.mem_singleton.mp hd
      exact D.ok_up (Dt.dok x.c) (by omega)
  deq x y := by
    show D.eqv (.tup [rp x.a, rp x.b, rp x.c]) (.tup [rp y.a, rp y.b, rp y.c]) = _
    rw [eqv_tup0, eqv_tup0, eqv_tup0, eqv_tupN, Dt.deq, Dt.deq, Dt.deq, Bool.and_true, and_dec, and_dec]
    cases x
    cases y
    exact decide_eq_decide.mpr (by simp)
instance [Dt α] [Dt β] [Dt γ] [Dt δ] : Dt (T4 α β γ δ) where
  dep := max (Dt.dep α) (max (Dt.dep β) (max (Dt.dep γ) (Dt.dep δ))) + 1
  dok x := by
    show D.okA (max (Dt.dep α) (max (Dt.dep β) (max (Dt.dep γ) (Dt.dep δ)))) [rp x.a, rp x.b, rp x.c, rp x.d] = true
    rw [D.okA_all]
    intro d hd
    rcases List.mem_cons.mp hd with rfl | hd
    · exact D.ok_up (Dt.dok x.a) (by omega)
    rcases List.mem_cons.mp hd with rfl | hd
    · exact D.ok_up (Dt.dok x.b) (by omega)
    rcases List.mem_cons.mp hd with rfl | hd
    · exact D.ok_up (Dt.dok x.c) (by omega)
    · cases List.mem_singleton.mp hd
      exact D.ok_up (Dt.dok x.d) (by omega)
  deq x y := by
    show D.eqv (.tup [rp x.a, rp x.b, rp x.c, rp x.d]) (.tup [rp y.a, rp y.b, rp y.c, rp y.d]) = _
    rw [eqv_tup0, eqv_tup0, eqv_tup0, eqv_tup0, eqv_tupN, Dt.deq, Dt.deq, Dt.deq, Dt.deq, Bool.and_true, and_dec, and_dec, and_dec]
    cases x
    cases y
    exact decide_eq_decide.mpr (by simp)
instance : Nn Int := ⟨fun x => by simp [Rpd.rp, D.eqv, D.py, PyData.eqv]⟩
instance : Nn Bool := ⟨fun x => by simp [Rpd.rp, D.eqv, D.py, PyData.eqv]⟩
instance : Nn Nm := ⟨fun x => by simp [Rpd.rp, D.eqv, D.py, PyData.eqv]⟩
instance [Dt α] : Nn (List α) := ⟨fun x => by simp [Rpd.rp, D.eqv, D.py, PyData.eqv]⟩
instance [Dt α] : Nn (Tu α) := ⟨fun x => by simp [Rpd.rp, D.eqv, D.py, PyData.eqv]⟩
instance [Dt α] [Dt β] : Nn (α × β) := ⟨fun x => by simp [Rpd.rp, D.eqv, D.py, PyData.eqv]⟩
instance [Dt α] [Dt β] [Dt γ] : Nn (T3 α β γ) := ⟨fun x => by simp [Rpd.rp, D.eqv, D.py, PyData.eqv]⟩
instance [Dt α] [Dt β] [Dt γ] [Dt δ] : Nn (T4 α β γ δ) := ⟨fun x => by simp [Rpd.rp, D.eqv, D.py, PyData.eqv]⟩
instance [Dt α] [Nn α] : Dt (Option α) where
  dep := Dt.dep α
  dok x := by
    cases x with
    | none => cases h : Dt.dep α <;> rfl
    | some y => exact Dt.dok y
  deq x y := by
    cases x with
    | none => cases y with
      | none => show D.eqv .non .non = _; simp [D.eqv, D.py, PyData.eqv]
      | some y => exact (Nn.nn y).1.trans (by simp)
    | some x => cases y with
      | none => exact (Nn.nn x).2.trans (by simp)
      | some y => exact (Dt.deq x y).trans (decide_eq_decide.mpr (by simp))
end
end GL
namespace GL
open PySem L2 PySem.Spec PyProof.Rows
mutual
def D.only (b : Bool) (cs : List Nat) : D → Bool
  | .lst l => b && D.onlyA b cs l
  | .tup l => D.onlyA b cs l
  | .obj c l => cs.contains c && D.onlyA b cs l
  | .dK _ l => D.onlyA b cs l
  | .dT _ l => D.onlyA b cs l
  | .exc _ l => D.onlyA b cs l
  | .cau _ _ _ l => D.onlyA b cs l
  | .lsr _ l => b && D.onlyA b cs l
  | .idn _ d => D.only b cs d
  | .scr _ => b
  | _ => true
def D.onlyA (b : Bool) (cs : List Nat) : List D → Bool
  | [] => true
  | d :: l => D.only b cs d && D.onlyA b cs l
end
mutual
theorem D.only_up {b : Bool} {cs : List Nat} : ∀ {d : D}, D.only false [] d = true → D.only b cs d = true
  | .lst l, h => by simp [D.only] at h
  | .tup l, h => by simp only [D.only] at h ⊢; exact D.onlyA_up h
  | .obj c l, h => by simp [D.only] at h
  | .dK _ l, h => by simp only [D.only] at h ⊢; exact D.onlyA_up h
  | .dT _ l, h => by simp only [D.only] at h ⊢; exact D.onlyA_up h
  | .exc _ l, h => by simp only [D.only] at h ⊢; exact D.onlyA_up h
  | .cau _ _ _ l, h => by simp only [D.only] at h ⊢; exact D.onlyA_up h
  | .lsr _ l, h => by simp [D.only] at h
  | .idn _ d, h => by simp only [D.only] at h ⊢; exact D.only_up h
  | .scr _, h => by simp [D.only] at h
  | .non, _ => rfl
  | .bl _, _ => rfl
  | .int _, _ => rfl
  | .str _, _ => rfl
  | .ref _, _ => rfl
  | .ty _, _ => rfl
theorem D.onlyA_up {b : Bool} {cs : List Nat} : ∀ {l : List D}, D.onlyA false [] l = true → D.onlyA b cs l = true
  | [], _ => rfl
  | d :: l, h => by
    simp only [D.onlyA, Bool.and_eq_true] at h ⊢
    exact ⟨D.only_up h.1, D.onlyA_up h.2⟩
end
abbrev Plain (fs : List D) : Prop := D.onlyA false [] fs = true
abbrev KX := Nat → List D → Prop
section
variable {A ρ : Type} [Rpd ρ]
def sgN (args : A → List D) (m : A → (ρ → Prop) → Prop) : SpG := fun ds μ Q _ => ∃ a k, ds = args a ∧ μ = [] ∧ m a k ∧ ∀ r, k r → Q (rp r) []
def sgX (args : A → List D) (m : A → (ρ → Prop) → KX → Prop) : SpG := fun ds μ Q E => ∃ a k kx, ds = args a ∧ μ = [] ∧ m a k kx ∧ (∀ r, k r → Q (rp r) []) ∧ ∀ c fs, kx c fs → Plain fs → E c fs []
def sgP (args : A → List D) (m : A → (ρ → Prop) → Prop) : SpG := fun ds μ Q _ => ∃ a p l k, ds = .ref p :: args a ∧ μ = [(p, .lst l)] ∧ PoolOk l ∧ m a k ∧ ∀ r l', PoolOk l' → k r → Q (rp r) [(p, .lst l')]
variable {args : A → List D}
theorem sgP_mono {m : A → (ρ → Prop) → Prop} : MonoG (sgP args m) := fun _ _ _ _ _ _ ⟨a, p, l, k, h1, h2, h3, h4, q⟩ w _ => ⟨a, p, l, k, h1, h2, h3, h4, fun r l' hl hr => w _ _ (q r l' hl hr)⟩
variable {S : Sg} {μ : Mem} {Q : QD} {ds : List D}
theorem ask_p {m : A → (ρ → Prop) → Prop} {k : ρ → Prop} {p : Addr} {l : List D} (a : A) (hd : ds = .ref p :: args a) (hl : PoolOk l) (h : m a k) (q : ∀ r l', PoolOk l' → k r → Q (rp r) ((p, .lst l') :: μ)) : AskG S (sgP args m) ds ((p, .lst l) :: μ) Q :=
  ⟨[(p, .lst l)], μ, .l (Split.none μ), a, p, l, k, hd, rfl, hl, h, q⟩
end
theorem ask_t {S : Sg} {a : Addr} {l : List D} {n : Int} {μ : Mem} {Q : QD} {R : Int → Prop} (hl : PoolOk l) (h : (0 < n ∧ n < 2 ^ 200) ∧ ∀ r, 0 ≤ r → r < n → R r) (q : ∀ r l', PoolOk l' → R r → Q (.int r) ((a, .lst l') :: μ)) : AskG S sg_take [.ref a, .int n] ((a, .lst l) :: μ) Q :=
  ask_take hl h.1 fun r l' r1 r2 hl' => q r l' hl' (h.2 r r1 r2)
def drw (n : Int) (R : Int → Prop) : Prop := (0 < n ∧ n < 2 ^ 200) ∧ ∀ r, 0 ≤ r → r < n → R r
theorem sub_vis0 {N H : Hp} {μ μ' : Mem} (s : μ'.Sublist μ) : Ex (vis N H (adr μ)) (vis N H (adr μ')) := fun b v e => by
  obtain ⟨h1, h2, h3⟩ := vis_in e
  exact vis_mk h3 h1 fun z => h2 ((s.map _).subset z)
theorem RelM0.drop {S : Sg0} {F N H : Hp} {μ μ' : Mem} (r : RelM0 S F N H μ) (s : μ'.Sublist μ) : RelM0 S F N H μ' :=
  ⟨r.hid, fun a h => r.dis a ((s.map _).subset h), r.ext.trans (sub_vis0 s), r.nd.sublist (s.map _), fun q h => by
    obtain ⟨u, e, m⟩ := r.mem q (s.subset h)
    exact ⟨u, e, m.ext (sub_vis0 s)⟩, r.tup⟩
section
variable {P : Program} {w : World} {K : PySem.W.Frag} {mg : Str → Option Value} {base : Heap} {S : Sg0} {k : Nat} {f : Addr} {fd : FuncData} {N ps : List Str} {x qual : Str} {params : Arguments} {body : List Stmt} {scope : Scope} {dvs : List V} {kws : List (Str × V)}
variable {A ρ : Type} [Rpd ρ] {args : A → List D}
abbrev EN (k : ρ → Prop) : EG := { nx := fun _ _ => ∃ r : ρ, (D.non = rp r) ∧ k r, rt := fun d _ => ∃ r, d = rp r ∧ k r }
theorem fundN {m : A → (ρ → Prop) → Prop} (F : FunD K x qual params body scope dvs kws f fd) (sc : FnScope N ps scope) (len : ∀ a, (args a).length = ps.length)
    (hbody : ∀ (cdv : Value) (Ar : Around) (outer : List Env) (s : Shared) (H : Hp) (E : XK) (a : A) (kk : ρ → Prop), Room k (Ar.deeper (envOfC qual scope s.heap.objs.size f cdv)) → m a kk →
      BlG (cxOf CX0 P w K mg base N qual scope f cdv Ar outer s H E).nox S.nx body (startG N (args a)) [] (EN kk)) :
    FnOk P w K mg base CX0 (k + 1) f fd ps (spG S (sgN args m)) := by
  refine F.ok sc (fun vs H Q E h => ?_) (fun cdv A outer s H vs Q E hr h => ?_)
  · obtain ⟨_, _, ds, μ, _, rv, a, kk, rfl, _⟩ := h
    rw [rv.length]
    exact len a
  · obtain ⟨F0, N0, ds, μ, r, rv, a, kk, rfl, rfl, hm, q0⟩ := h
    refine ⟨_, PSs.nox pss_ex, ⟨fun pins s' I => ?_⟩⟩
    refine thn (hbody cdv A outer s H E a kk hr hm F0 N0 (L2.start N vs) H ⟨r, nx_iv⟩ (start_rel rv) pins s' I) fun fl s2 q => ?_
    cases fl with
    | next =>
      obtain ⟨σ', H', I', Γ', μ', r', rs', y, e, q⟩ := q
      exact ⟨σ', H', I', q0 y q .non H' (r'.toRelM0.drop (List.nil_sublist _)) (e ▸ .non)⟩
    | ret u =>
      obtain ⟨v, σ', H', I', rv', d', μ', r', rd, y, rfl, q⟩ := q
      exact ⟨v, σ', H', I', rv', q0 y q v H' (r'.toRelM0.drop (List.nil_sublist _)) (rd.ext (sub_vis0 (List.nil_sublist _)))⟩
    | brk => obtain ⟨σ', H', I', Γ', μ', r', rs', q⟩ := q; exact q.elim
    | cont => obtain ⟨σ', H', I', Γ', μ', r', rs', q⟩ := q; exact q.elim
abbrev EP' (p : Addr) (k : ρ → Prop) : EG := { nx := fun _ μ' => ∃ (r : ρ) (l : List D) (μ0 : Mem), (D.non = rp r) ∧ μ' = (p, .lst l) :: μ0 ∧ PoolOk l ∧ k r, rt := fun d μ' => ∃ (r : ρ) (l : List D) (μ0 : Mem), d = rp r ∧ μ' = (p, .lst l) :: μ0 ∧ PoolOk l ∧ k r }
theorem pool_sub {p : Addr} {l : List D} {μ0 : Mem} : List.Sublist [(p, M.lst l)] ((p, .lst l) :: μ0) := List.Sublist.cons_cons _ (List.nil_sublist _)
theorem fundP {m : A → (ρ → Prop) → Prop} (F : FunD K x qual params body scope dvs kws f fd) (sc : FnScope N ps scope) (len : ∀ a, (args a).length + 1 = ps.length)
    (hbody : ∀ (cdv : Value) (Ar : Around) (outer : List Env) (s : Shared) (H : Hp) (E : XK) (a : A) (p : Addr) (l : List D) (kk : ρ → Prop), Room k (Ar.deeper (envOfC qual scope s.heap.objs.size f cdv)) → PoolOk l → m a kk →
      BlG (cxOf CX0 P w K mg base N qual scope f cdv Ar outer s H E).nox S.nx body (startG N (.ref p :: args a)) [(p, .lst l)] (EP' p kk)) :
    FnOk P w K mg base CX0 (k + 1) f fd ps (spG S (sgP args m)) := by
  refine F.ok sc (fun vs H Q E h => ?_) (fun cdv A outer s H vs Q E hr h => ?_)
  · obtain ⟨_, _, ds, μ, _, rv, a, p, l, kk, rfl, _⟩ := h
    rw [rv.length]
    exact len a
  · obtain ⟨F0, N0, ds, μ, r, rv, a, p, l, kk, rfl, rfl, hl, hm, q0⟩ := h
    refine ⟨_, PSs.nox pss_ex, ⟨fun pins s' I => ?_⟩⟩
    refine thn (hbody cdv A outer s H E a p l kk hr hl hm F0 N0 (L2.start N vs) H ⟨r, nx_iv⟩ (start_rel rv) pins s' I) fun fl s2 q => ?_
    cases fl with
    | next =>
      obtain ⟨σ', H', I', Γ', μ', r', rs', y, l', m0, e, rfl, hl', q⟩ := q
      exact ⟨σ', H', I', q0 y l' hl' q .non H' (r'.toRelM0.drop pool_sub) (e ▸ .non)⟩
    | ret u =>
      obtain ⟨v, σ', H', I', rv', d', μ', r', rd, y, l', m0, rfl, rfl, hl', q⟩ := q
      exact ⟨v, σ', H', I', rv', q0 y l' hl' q v H' (r'.toRelM0.drop pool_sub) (rd.ext (sub_vis0 pool_sub))⟩
    | brk => obtain ⟨σ', H', I', Γ', μ', r', rs', q⟩ := q; exact q.elim
    | cont => obtain ⟨σ', H', I', Γ', μ', r', rs', q⟩ := q; exact q.elim
end
end GL
namespace GL
open PySem L2 PySem.Spec PyProof.Rows
def notStar : Expr → Bool | .Starred _ _ => false | _ => true
theorem star_cs {e : Expr} {es : List Expr} {env : Env} (h : notStar e = true) : starEach (e :: es) env = (false, eval e env) :: starEach es env := by
  cases e <;> first | rfl | exact nomatch h
theorem plain_ns {env : Env} {pos : Pos} : ∀ {es : List Expr}, es.all notStar = true → (backTo pos (starEach es env)).any (·.1) = false
  | [], _ => rfl
  | e :: es, h => by
    rw [List.all_cons, Bool.and_eq_true] at h
    rw [star_cs h.1]
    have ih := plain_ns (env := env) (pos := pos) h.2
    unfold backTo at ih ⊢
    rw [List.map_cons, List.any_cons, ih]
    rfl
section
variable {X : Cx} {S : Sg} {a b c e o : Expr} {es : List Expr} {st : Stmt} {sts body orelse : List Stmt} {Γ : Gm} {μ : Mem} {Q : QD} {x : Str} {pos p : Pos} {d : D} {E : EG} {tg iter : Expr}
theorem ea_c {Q : List D → Mem → Prop} (h : EvG X S e Γ μ fun d μ1 => EvA X S es Γ μ1 fun ds μ2 => Q (d :: ds) μ2) (hs : notStar e = true := by rfl) : EvA X S (e :: es) Γ μ Q := ea_cons h (star_cs hs)
theorem cB {id : String} (hm : X.mg x = none) (hv : bootBuiltins x = some (.builtin id)) (h : EvA X S (e :: es) Γ μ fun ds μ1 => CallG X S (.builtin id) ds μ1 Q) (hg : Gl X x := by rfl) (hn : x ≠ "__name__" := by decide) (hdb : (x == ("__debug__" : Str)) = false := by decide)
    (h1 : notStar e = true := by rfl) (h2 : es.all notStar = true := by rfl) : EvG X S (.Call (.Name x p) (e :: es) [] pos) Γ μ Q := ev_callB hg hm hv h hn hdb (star_cs h1) (plain_ns h2)
theorem cT {T : String} (hm : X.mg x = none) (hv : bootBuiltins x = some (.type T)) (h : EvA X S (e :: es) Γ μ fun ds μ1 => CallG X S (.type T) ds μ1 Q) (hg : Gl X x := by rfl) (hn : x ≠ "__name__" := by decide) (hdb : (x == ("__debug__" : Str)) = false := by decide)
    (h1 : notStar e = true := by rfl) (h2 : es.all notStar = true := by rfl) : EvG X S (.Call (.Name x p) (e :: es) [] pos) Γ μ Q := ev_callTy hg hm hv h hn hdb (star_cs h1) (plain_ns h2)
section
variable {CX : CXT} {k : Nat} {f : Addr} {fd : FuncData} {ps : List Str} {sg : SpG}
theorem cF (hm' : MonoG sg) (F : FnOk X.prog X.w X.K X.mg X.base CX k f fd ps (spG S sg)) (hr : Room k X.A) (hm : X.mg x = some (.ref f)) (hk : PySem.W.keepIn X.K (.ref f) = true) (hb : Binds X.K fd ps []) (hx : Passes CX X S.wx)
    (h : EvA X S (e :: es) Γ μ fun ds μ1 => AskG S sg ds μ1 Q) (hg : Gl X x := by rfl) (hdb : (x == ("__debug__" : Str)) = false := by decide) (h1 : notStar e = true := by rfl) (h2 : es.all notStar = true := by rfl) : EvG X S (.Call (.Name x p) (e :: es) [] pos) Γ μ Q :=
  ev_call hm' F hr hg hm hk hb .nil (fun _ => .nil) hx (by simpa only [List.append_nil] using h) hdb (star_cs h1) (plain_ns h2)
end
theorem asgF (i : Nat) {pos' : Pos} (nd : X.N.Nodup) (h : EvG X S e Γ μ fun d μ1 => BlG X S sts (Γ.set i (some d)) μ1 E) (hi : X.N[i]? = some x := by rfl) (hx : Loc X.env.scope x := by first | exact Or.inl rfl | exact Or.inr rfl)
    (hs : notComp e = true := by rfl) (hf : X.fn x = true ∨ X.env.scope.names.lookup x = some .local := by first | exact .inl rfl | exact .inr rfl) : BlG X S (.Assign [.Name x pos'] e pos :: sts) Γ μ E := bl_cons (st_set nd hi hx h (swaps_no hs) hf)
theorem exF (h : EvG X S e Γ μ fun _ μ' => BlG X S sts Γ μ' E) (hs : notComp e = true := by rfl) : BlG X S (.Expr e pos :: sts) Γ μ E := exb h (swaps_no hs)
theorem ixF (h : EvG X S a Γ μ fun d1 μ1 => EvG X S b Γ μ1 fun d2 μ2 => IxG X S d1 d2 μ2 Q) (hs : PlainIx b := by exact fun _ _ => rfl) : EvG X S (.Subscript a b pos) Γ μ Q := ev_ix hs h
theorem xb {P : Bool → Prop} {c : Bool} (h : P c) : ∃ c', D.bl c = .bl c' ∧ P c' := ⟨c, rfl, h⟩
theorem tb {c : Bool} {A B : Prop} (h1 : c = true → A) (h2 : c = false → B) : (c = true → A) ∧ (c = false → B) := ⟨h1, h2⟩
end
theorem atI_map {α β : Type} (f : α → β) (l : List α) (i : Int) : atI (l.map f) i = (atI l i).map f := by
  unfold atI
  rw [List.length_map]
  cases ixN l.length i with
  | none => rfl
  | some j => exact List.getElem?_map
def IsL {α : Type} [Rpd α] (μ : Mem) (d : D) (l : List α) : Prop := Drf μ d (l.map rp)
theorem IsL.val {α : Type} [Rpd α] {μ : Mem} (l : List α) : IsL μ (rp l) l := Drf.val _
theorem IsL.mem {α : Type} [Rpd α] {μ : Mem} {a : Addr} {l : List α} (h : (a, M.lst (l.map rp)) ∈ μ) : IsL μ (.ref a) l := Drf.ref h
def inb {α : Type} [DecidableEq α] (x : α) (l : List α) : Bool := decide (x ∈ l)
theorem inb_t {α : Type} [DecidableEq α] {x : α} {l : List α} : inb x l = true ↔ x ∈ l := decide_eq_true_iff
theorem inb_f {α : Type} [DecidableEq α] {x : α} {l : List α} : inb x l = false ↔ ¬ x ∈ l := decide_eq_false_iff_not
section
variable {X : Cx} {S : Sg} {Γ : Gm} {μ : Mem} {Q : QD} {d e : D}
section
variable {α β : Type} [DecidableEq α] [Dt α] [DecidableEq β] [Dt β]
theorem op_eq (x y : α) (hu : X.A.units + 65 < cLine) (h1 : Rsv μ d (rp x)) (h2 : Rsv μ e (rp y)) (k : Q (.bl (decide (x = y))) μ) (hK : X.K = S.K := by rfl) (n1 : Dt.dep α ≤ 60 := by decide) : OpG X S (compareOp .Eq) d e μ Q := by
  refine og_eqD hK hu h1 h2 (Dt.dok x) (Dt.dok y) n1 n1 ?_
  rw [Dt.deq]
  exact k
theorem op_ne (x y : α) (hu : X.A.units + 65 < cLine) (h1 : Rsv μ d (rp x)) (h2 : Rsv μ e (rp y)) (k : Q (.bl (!decide (x = y))) μ) (hK : X.K = S.K := by rfl) (n1 : Dt.dep α ≤ 60 := by decide) : OpG X S (compareOp .NotEq) d e μ Q := by
  refine og_neD hK hu h1 h2 (Dt.dok x) (Dt.dok y) n1 n1 ?_
  rw [Dt.deq]
  exact k
theorem inL_t (x : α) : ∀ l : List α, D.inL (rp x) (l.map rp) = decide (x ∈ l)
  | [] => by simp [D.inL]
  | y :: l => by
    have ih := inL_t x l
    unfold D.inL at ih ⊢
    rw [List.map_cons, List.any_cons, ih, Dt.deq]
    by_cases h : y = x
    · rw [decide_eq_true h, Bool.true_or, decide_eq_true (h ▸ List.mem_cons_self)]
    · rw [decide_eq_false h, Bool.false_or]
      refine decide_eq_decide.mpr ⟨fun z => List.mem_cons_of_mem _ z, fun z => ?_⟩
      rcases List.mem_cons.mp z with z | z
      · exact absurd z.symm h
      · exact z
theorem op_in (x : α) (l : List α) (hu : X.A.units + 65 < cLine) (h1 : Rsv μ d (rp x)) (h2 : IsL μ e l) (k : Q (.bl (inb x l)) μ) (hK : X.K = S.K := by rfl) (n1 : Dt.dep α ≤ 50 := by decide) : OpG X S (compareOp .In) d e μ Q := by
  refine og_inL hK hu h1 h2 (Dt.dok x) (okA_map (fun x => Dt.dok x) l) n1 ?_
  rw [inL_t]
  exact k
theorem op_ni (x : α) (l : List α) (hu : X.A.units + 65 < cLine) (h1 : Rsv μ d (rp x)) (h2 : IsL μ e l) (k : Q (.bl (!inb x l)) μ) (hK : X.K = S.K := by rfl) (n1 : Dt.dep α ≤ 50 := by decide) : OpG X S (compareOp .NotIn) d e μ Q := by
  refine og_niL hK hu h1 h2 (Dt.dok x) (okA_map (fun x => Dt.dok x) l) n1 ?_
  rw [inL_t]
  exact k
end
section
variable {α β : Type} [Rpd α] [Rpd β]
theorem ix_l (l : List α) {i : Int} {y : α} (h : IsL μ d l) (hi : atI l i = some y) (k : Q (rp y) μ) : IxG X S d (.int i) μ Q := ig_l h (by rw [atI_map, hi]; rfl) k
theorem ix_T (l : Tu α) {i : Int} {y : α} (hi : atI l.l i = some y) (k : Q (rp y) μ) (hK : X.K = S.K := by rfl) : IxG X S (rp l) (.int i) μ Q := ig_t hK (by rw [atI_map, hi]; rfl) k
theorem ix_t {l : List D} {i : Int} (y : D) (k : Q y μ) (hi : atI l i = some y := by rfl) (hK : X.K = S.K := by rfl) : IxG X S (.tup l) (.int i) μ Q := ig_t hK hi k
theorem ix_f {l : List D} {i : Int} (y : D) (k : Q y μ) (hi : atI l i = some y := by rfl) : IxG X S (.lst l) (.int i) μ Q := ig_l (.val l) hi k
def cutL (l : List α) (lo hi : Option Int) : List α := (l.drop (HT.sIx l.length 0 lo)).take (HT.sIx l.length l.length hi - HT.sIx l.length 0 lo)
theorem c_len (l : List α) (h : IsL μ d l) (k : Q (.int (l.length : Int)) μ) (hK : X.K = S.K := by rfl) : CallG X S (.builtin "len") [d] μ Q := by
  refine cg_len hK (.l h) ?_
  rw [List.length_map]
  exact k
theorem c_list (l : List α) (h : DrfT μ d (l.map rp)) (k : Q (rp l) μ) (hK : X.K = S.K := by rfl) : CallG X S (.type "list") [d] μ Q := cg_list hK h k
theorem c_listE (l : List α) (h : DrfT μ d (l.map rp)) (k : ∀ p, p ∉ adr μ → Q (.ref p) (μ ++ [(p, .lst (l.map rp))])) (hK : X.K = S.K := by rfl) : CallG X S (.type "list") [d] μ Q := cg_listE hK h k
theorem c_tuple (l : List α) (h : DrfT μ d (l.map rp)) (k : Q (rp (Tu.mk l)) μ) (hK : X.K = S.K := by rfl) : CallG X S (.type "tuple") [d] μ Q := cg_tuple hK h k
end
end
end GL
namespace GL
open PySem L2 PySem.Spec PyProof.Rows
def forI {α σ : Type} (xs : List α) (s0 : σ) (step : α → σ → (σ → Prop) → Prop) (K : σ → Prop) : Prop :=
  ∃ I : Nat → σ → Prop, I 0 s0 ∧ (∀ i x s, xs[i]? = some x → I i s → step x s (I (i + 1))) ∧ ∀ s, I xs.length s → K s
def lcI {α β : Type} (xs : List α) (step : α → (Option β → Prop) → Prop) (K : List β → Prop) : Prop :=
  ∃ I : Nat → List β → Prop, I 0 [] ∧ (∀ i x acc, xs[i]? = some x → I i acc → acc.length < 16777216 ∧ step x (fun o => I (i + 1) (acc ++ o.toList))) ∧ ∀ acc, I xs.length acc → K acc
section
variable {X : Cx} {S : Sg} {Γ : Gm} {μ : Mem} {E : EG} {tg elt : Expr} {ifs : List Expr} {body sts : List Stmt} {scope : Scope}
abbrev RFor (X : Cx) (S : Sg) (tg : Expr) (body sts : List Stmt) (Γ : Gm) (E : EG) : RI := fun Km ds μ1 => ∃ I : Nat → Gm → Mem → Prop, I 0 Γ μ1 ∧ (∀ i Γ' μ', I i Γ' μ' → Km μ') ∧
      (∀ i d Γ' μ', ds[i]? = some d → I i Γ' μ' → TgG X S (List.range 64) tg d Γ' μ' fun Γ2 μ2 => BlG X S body Γ2 μ2 { nx := I (i + 1), ct := I (i + 1), bk := fun Γ' μ' => BlG X S sts Γ' μ' E, rt := E.rt }) ∧
      (∀ Γ' μ', I ds.length Γ' μ' → BlG X S sts Γ' μ' E)
abbrev ETurn {σ : Type} (R : σ → Gm → Mem → Prop) (J : σ → Prop) (X : Cx) (S : Sg) (sts : List Stmt) (E : EG) : EG :=
  { nx := fun Γ μ => ∃ s, J s ∧ R s Γ μ, ct := fun Γ μ => ∃ s, J s ∧ R s Γ μ, bk := fun Γ' μ' => BlG X S sts Γ' μ' E, rt := E.rt }
theorem forQ {α σ : Type} {f : α → D} {xs : List α} {s0 : σ} {step : α → σ → (σ → Prop) → Prop} {K : σ → Prop} {Km : Mem → Prop} (h : forI xs s0 step K) (R : σ → Gm → Mem → Prop) (h0 : R s0 Γ μ) (km : ∀ s Γ' μ', R s Γ' μ' → Km μ')
    (hstep : ∀ x s J Γ' μ', x ∈ xs → R s Γ' μ' → step x s J → TgG X S (List.range 64) tg (f x) Γ' μ' fun Γ2 μ2 => BlG X S body Γ2 μ2 (ETurn R J X S sts E))
    (hend : ∀ s Γ' μ', R s Γ' μ' → K s → BlG X S sts Γ' μ' E) : RFor X S tg body sts Γ E Km (xs.map f) μ := by
  obtain ⟨I, i0, hs, hk⟩ := h
  refine ⟨fun i Γ' μ' => ∃ s, I i s ∧ R s Γ' μ', ⟨s0, i0, h0⟩, fun i Γ' μ' ⟨s, _, r⟩ => km s Γ' μ' r, ?_, ?_⟩
  · rintro i d Γ' μ' hd ⟨s, hi, r⟩
    obtain ⟨x, hx, rfl⟩ := map_at hd
    exact hstep x s _ Γ' μ' (List.mem_of_getElem? hx) r (hs i x s hx hi)
  · rintro Γ' μ' ⟨s, hi, r⟩
    rw [List.length_map] at hi
    exact hend s Γ' μ' r (hk s hi)
abbrev RLc (X : Cx) (S : Sg) (tg elt : Expr) (ifs : List Expr) (scope : Scope) (vs : List Nat) (Γ : Gm) (Q : List D → Mem → Prop) : RI := fun Km ds μ1 => LcG X S tg elt ifs scope vs Γ Km ds μ1 Q
abbrev LcStep (X : Cx) (S : Sg) (tg elt : Expr) (ifs : List Expr) (scope : Scope) (vs : List Nat) (Γ : Gm) (k : Bk) (d : D) (μ' : Mem) (T : Bool → Mem → Prop) (W : D → Mem → Prop) : Prop :=
  TgG (k.cx X scope) S vs tg d (wipeG Γ vs) μ' fun Γ2 μ2 => ∀ k : Bk, TsG (k.cx X scope) S ifs Γ2 μ2 fun b μ3 => (b = true → ∀ k : Bk, EvG (k.cx X scope) S elt Γ2 μ3 W) ∧ (b = false → T b μ3)
theorem lcQ {α β : Type} [Rpd β] {f : α → D} {xs : List α} {step : α → (Option β → Prop) → Prop} {K : List β → Prop} {Km : Mem → Prop} {vs : List Nat} {Q : List D → Mem → Prop} (h : lcI xs step K) (R : Mem → Prop) (h0 : R μ) (km : ∀ μ', R μ' → Km μ')
    (hstep : ∀ x J μ', x ∈ xs → R μ' → step x J → ∀ k : Bk, LcStep X S tg elt ifs scope vs Γ k (f x) μ' (fun _ μ3 => J none ∧ R μ3) (fun y μ4 => ∃ z : β, y = rp z ∧ J (some z) ∧ R μ4))
    (hend : ∀ acc μ', R μ' → K acc → Q (acc.map rp) μ') : RLc X S tg elt ifs scope vs Γ Q Km (xs.map f) μ := by
  obtain ⟨I, i0, hs, hk⟩ := h
  refine ⟨fun i acc μ' => ∃ ys : List β, acc = ys.map rp ∧ I i ys ∧ R μ', ⟨[], rfl, i0, h0⟩, fun i acc μ' ⟨_, _, _, r⟩ => km μ' r, ?_, ?_⟩
  · rintro i d acc μ' hd ⟨ys, rfl, hi, r⟩ k
    obtain ⟨x, hx, rfl⟩ := map_at hd
    obtain ⟨hz, h1⟩ := hs i x ys hx hi
    intro F N σ H v r1 rs rv
    refine (hstep x _ μ' (List.mem_of_getElem? hx) r h1 k F N σ H v r1 rs rv).mono fun σ' H' ⟨w, Γ2, μ2, r2, rs2, q⟩ => ⟨w, Γ2, μ2, r2, rs2, fun k F N σ H r rs => ?_⟩
    obtain ⟨t, ht, q⟩ := q k F N σ H r rs
    refine ⟨_, pts_ex, t, _, ht, q, fun b H' ⟨μ3, r3, q1, q2⟩ => ⟨μ3, r3, fun hb k => (q1 hb k).mono fun y μ4 ⟨z, e, hj, r4⟩ => ⟨by rw [List.length_map]; exact hz, ys ++ [z], by rw [List.map_append, e]; rfl, hj, r4⟩, fun hb => ?_⟩⟩
    obtain ⟨hj, r4⟩ := q2 hb
    exact ⟨ys, rfl, by simpa using hj, r4⟩
  · rintro acc μ' ⟨ys, rfl, hi, r⟩
    rw [List.length_map] at hi
    exact hend ys μ' r (hk ys hi)
theorem filt_snoc {α β : Type} {p : α → Bool} {f : α → β} {l : List α} {i : Nat} {x : α} (h : l[i]? = some x) : (((l.take (i + 1)).filter p).map f) = ((l.take i).filter p).map f ++ (if p x = true then some (f x) else none).toList := by
  rw [take_snoc h, List.filter_append, List.map_append]
  by_cases hp : p x = true
  · rw [if_pos hp, List.filter_cons_of_pos hp]
    rfl
  · rw [if_neg hp, List.filter_cons_of_neg hp]
    rfl
theorem lcFM {α β : Type} [Rpd β] {f : α → D} {xs : List α} {Km : Mem → Prop} {vs : List Nat} {Q : List D → Mem → Prop} (p : α → Bool) (g : α → β) (hz : xs.length ≤ 16777216) (km : Km μ)
    (hstep : ∀ x, x ∈ xs → ∀ k : Bk, LcStep X S tg elt ifs scope vs Γ k (f x) μ (fun _ μ3 => p x = false ∧ μ3 = μ) (fun y μ4 => y = rp (g x) ∧ p x = true ∧ μ4 = μ))
    (hend : Q (((xs.filter p).map g).map rp) μ) : RLc X S tg elt ifs scope vs Γ Q Km (xs.map f) μ := by
  refine lcQ (β := β) (step := fun x J => x ∈ xs ∧ (p x = true → J (some (g x))) ∧ (p x = false → J none)) (K := fun acc => acc = (xs.filter p).map g) ⟨fun i acc => acc = ((xs.take i).filter p).map g ∧ i ≤ xs.length, ⟨rfl, Nat.zero_le _⟩, ?_, ?_⟩ (fun μ' => μ' = μ) rfl (fun μ' h => h ▸ km) ?_ (fun acc μ' h1 h2 => by rw [h1, h2]; exact hend)
  · rintro i x acc hx ⟨rfl, hi⟩
    have hlt : i < xs.length := by
      rcases Nat.lt_or_ge i xs.length with h | h
      · exact h
      · rw [List.getElem?_eq_none h] at hx; cases hx
    refine ⟨?_, List.mem_of_getElem? hx, fun hp => ⟨?_, hlt⟩, fun hp => ⟨?_, hlt⟩⟩
    · rw [List.length_map]
      have := List.length_filter_le p (xs.take i)
      have := List.length_take_le i xs
      omega
    · rw [filt_snoc hx, if_pos hp]
    · rw [filt_snoc hx, if_neg (by rw [hp]; decide)]
  · rintro acc ⟨rfl, _⟩
    rw [List.take_length]
  · rintro x J μ' hx rfl ⟨_, h1, h2⟩ k
    intro F N σ H v r1 rs rv
    refine (hstep x hx k F N σ H v r1 rs rv).mono fun σ' H' ⟨w, Γ2, μ2, r2, rs2, q⟩ => ⟨w, Γ2, μ2, r2, rs2, fun k F N σ H r rs => ?_⟩
    obtain ⟨t, ht, q⟩ := q k F N σ H r rs
    refine ⟨_, pts_ex, t, _, ht, q, fun b H' ⟨μ3, r3, q1, q2⟩ => ⟨μ3, r3, fun hb k => (q1 hb k).mono fun y μ4 ⟨e, hp, e2⟩ => ⟨g x, e, h1 hp, e2⟩, fun hb => ?_⟩⟩
    obtain ⟨hp, e2⟩ := q2 hb
    exact ⟨h2 hp, e2⟩
end
end GL
namespace GL
open PySem L2 PySem.Spec PyProof.Rows
section
variable {X : Cx} {S : Sg} {Γ : Gm} {μ : Mem} {Q : QD} {tg : Expr} {R : RI} {a b c e : Expr} {es rest : List Expr} {T : Bool → Mem → Prop} {pos p : Pos} {x : Str}
section
variable {α : Type} [Rpd α]
theorem it_l (xs : List α) (k : R (fun _ => True) (xs.map rp) μ) (hK : X.K = S.K := by rfl) : IterV X S tg (rp xs) μ R := iv_lst hK k
theorem it_T (xs : Tu α) (k : R (fun _ => True) (xs.l.map rp) μ) (hK : X.K = S.K := by rfl) : IterV X S tg (rp xs) μ R := iv_tup hK k
theorem it_m {g : Addr} (xs : List α) (hm : (g, M.lst (xs.map rp)) ∈ μ) (k : R (fun μ' => (g, M.lst (xs.map rp)) ∈ μ') (xs.map rp) μ) (hK : X.K = S.K := by rfl) : IterV X S tg (.ref g) μ R := iv_mem hK hm k
end
theorem rng0 (n : Nat) : rng 0 n = (List.range n).map fun i : Nat => D.int (i : Int) := by
  unfold rng
  refine List.map_congr_left fun i _ => ?_
  rw [Int.zero_add]
theorem ir1 (hm : X.mg "range" = none) (h : EvA X S [a] Γ μ fun ds μ1 => ∃ j : Int, ds = [.int j] ∧ (-(2 ^ 62) ≤ j ∧ j < 2 ^ 62) ∧ R (fun _ => True) ((List.range j.toNat).map fun i : Nat => D.int (i : Int)) μ1) (hg : Gl X "range" := by rfl) (hs : notStar a = true := by rfl) :
    IterG X S tg (.Call (.Name "range" p) [a] [] pos) Γ μ R := ig_range1 hg hm ((fun F N σ H r rs => (h F N σ H r rs).mono fun vs H' ⟨ds, μ', r', ra, j, e1, e2, q⟩ => ⟨ds, μ', r', ra, j, e1, e2, by rw [rng0]; exact q⟩)) (star_cs hs)
theorem et_cut {T' : Bool → Mem → Prop} (U : Bool → Prop) (R : Mem → Prop) (h : EvT X S e Γ μ fun b μ1 => U b ∧ R μ1) (k : ∀ b μ1, U b → R μ1 → T' b μ1) : EvT X S e Γ μ T' := fun F N σ H r rs =>
  (h F N σ H r rs).mono fun _ _ ⟨μ', r', q1, q2⟩ => ⟨μ', r', k _ _ q1 q2⟩
end
section
variable {X : Cx} {S : Sg} {Γ : Gm} {μ : Mem} {E : EG} {sts : List Stmt} {o e i : Expr} {pos apos cpos : Pos} {α : Type} [Rpd α]
theorem appF {a : Addr} {l0 : List D} (ho : ∀ {Q : QD}, Q (.ref a) μ → EvG X S o Γ μ Q) (hm : (a, M.lst l0) ∈ μ)
    (he : EvG X S e Γ μ fun d μ2 => ∃ (l : List α) (y : α) (μ3 : Mem), d = rp y ∧ l.length < 16777216 ∧ Upd a (.lst (l.map rp)) (.lst ((l ++ [y]).map rp)) μ2 μ3 ∧ BlG X S sts Γ μ3 E)
    (hbase : attributeBase o "append" X.env (eval o X.env) = eval o X.env := by rfl)
    (hs : notStar e = true := by rfl) (hline : (apos.endLine == cpos.line) = true := by rfl) : BlG X S (.Expr (.Call (.Attribute o "append" apos) [e] [] cpos) pos :: sts) Γ μ E := by
  refine exF <| ev_app (ho ⟨a, rfl, ⟨_, hm⟩, ea_c ?_ hs⟩) hbase (by rw [star_cs hs]; rfl) hline (star_cs hs) rfl
  refine he.mono fun d μ2 ⟨l, y, μ3, h1, h2, h3, h4⟩ => ea_nil ⟨d, l.map rp, μ3, rfl, ?_, by rw [List.length_map]; exact h2, h4⟩
  rw [h1, show l.map rp ++ [rp y] = (l ++ [y]).map rp by rw [List.map_append]; rfl]
  exact h3
theorem setF {o : Expr} {a : Addr} (he : EvG X S e Γ μ fun d μ1 => EvG X S o Γ μ1 fun od μ2 => EvG X S i Γ μ2 fun id μ3 => ∃ (l : List α) (k : Int) (j : Nat) (y : α) (μ4 : Mem), od = .ref a ∧ id = .int k ∧ d = rp y ∧ ixN l.length k = some j ∧ Upd a (.lst (l.map rp)) (.lst ((l.set j y).map rp)) μ3 μ4 ∧ BlG X S sts Γ μ4 E)
    (hs : notComp e = true := by rfl) {p1 : Pos} (ha : ∀ v, assign (.Subscript o i p1) X.env v = (do
      let ov ← holding [v] (eval o X.env)
      let iv ← holding [v, ov] (eval i X.env)
      standAt p1
      holding [v, ov, iv] (setItem ov iv v)
      release [v, ov, iv] []) := by intro _; rfl) (hw : swappedStores [.Subscript o i p1] e X.env = pure none := by rfl) (h1 : (assignEach [.Subscript o i p1] X.env).map (·.2) = [assign (.Subscript o i p1) X.env] := by rfl) : BlG X S (.Assign [.Subscript o i p1] e pos :: sts) Γ μ E := by
  refine setb (he.mono fun d μ1 h => tg_sub (h.mono fun od μ2 h => h.mono fun id μ3 ⟨l, k, j, y, μ4, e1, e2, e3, e4, e5, e6⟩ => ⟨a, l.map rp, k, j, μ4, e1, e2, by rw [List.length_map]; exact e4, ?_, e6⟩) ha) (by rw [swapsWithSole]; exact swaps_no hs) hw h1
  rw [e3, show (l.map rp).set j (rp y) = (l.set j y).map rp by rw [List.map_set]]
  exact e5
end
section
variable {A ρ : Type} [Rpd ρ]
def sgF (args : A → List D) (Pre : A → Prop) (F : A → ρ) : SpG := fun ds μ Q _ => ∃ a, ds = args a ∧ μ = [] ∧ Pre a ∧ Q (rp (F a)) []
theorem sgF_mono {args : A → List D} {Pre : A → Prop} {F : A → ρ} : MonoG (sgF args Pre F) := fun _ _ _ _ _ _ ⟨a, h1, h2, h3, q⟩ w _ => ⟨a, h1, h2, h3, w _ _ q⟩
theorem ask_f {S : Sg} {μ : Mem} {Q : QD} {ds : List D} {args : A → List D} {Pre : A → Prop} {F : A → ρ} (a : A) (h : Pre a) (q : Q (rp (F a)) μ) (hd : ds = args a := by rfl) : AskG S (sgF args Pre F) ds μ Q := ⟨[], μ, Split.none μ, a, hd, rfl, h, q⟩
theorem okF {P : Program} {w : World} {K : PySem.W.Frag} {mg : Str → Option Value} {base : Heap} {CX : CXT} {k : Nat} {f : Addr} {fd : FuncData} {ps : List Str} {S : Sg0} {args : A → List D} {m : A → (ρ → Prop) → Prop} {Pre : A → Prop} {F : A → ρ}
    (h : FnOk P w K mg base CX k f fd ps (spG S (sgN args m))) (vc : ∀ a (kk : ρ → Prop), Pre a → kk (F a) → m a kk) : FnOk P w K mg base CX k f fd ps (spG S (sgF args Pre F)) :=
  h.imp fun vs H Q E ⟨F0, N, ds, μ, r, rv, a, e1, e2, hp, q⟩ => ⟨F0, N, ds, μ, r, rv, a, fun x => x = F a, e1, e2, vc a _ hp rfl, fun r h => by rw [h]; exact q⟩
end
end GL
namespace GL
open PySem L2 PySem.Spec PyProof.Rows
theorem swaps_yes {elt : Expr} {gens : List Comprehension} {scope : Scope} {pos py : Pos} {y : Str} {env : Env} {line : Nat} (hb : env.blockKind = .function) (hy : env.kindOf y = some .local) (hl : py.line = pos.line)
    (hn : (scope.names.any fun x => x.1 == y && (x.2 == .local || x.2 == .cell)) = false) : swapsWith (.ListComp elt gens scope pos) (some (.Name y py)) line env = pure true := by
  have h1 : (env.blockKind == ScopeKind.function) = true := by rw [hb]; rfl
  have h2 : (env.kindOf y == some NameKind.local) = true := by rw [hy]; rfl
  have h3 : (py.line == pos.line) = true := by rw [hl]; simp
  show (pure (env.blockKind == ScopeKind.function && env.kindOf y == some NameKind.local && py.line == pos.line && !(scope.names.any fun x => x.1 == y && (x.2 == .local || x.2 == .cell))) : Sem Bool) = pure true
  rw [h1, h2, h3, hn]
  rfl
theorem swaps_cell {elt : Expr} {gens : List Comprehension} {scope : Scope} {pos py : Pos} {y : Str} {env : Env} {line : Nat} (hy : env.kindOf y = some .cell) : swapsWith (.ListComp elt gens scope pos) (some (.Name y py)) line env = pure false := by
  have h2 : (env.kindOf y == some NameKind.local) = false := by rw [hy]; rfl
  show (pure (env.blockKind == ScopeKind.function && env.kindOf y == some NameKind.local && py.line == pos.line && !(scope.names.any fun x => x.1 == y && (x.2 == .local || x.2 == .cell))) : Sem Bool) = pure false
  rw [h2, Bool.and_false, Bool.false_and, Bool.false_and]
section
variable {X : Cx} {S : Sg} {e : Expr} {sts : List Stmt} {Γ : Gm} {μ : Mem} {E : EG} {x : Str} {pos : Pos}
theorem asgL (i : Nat) {pos' : Pos} (nd : X.N.Nodup) (hs : swapsWith e (some (.Name x pos')) pos.line X.env = pure false) (h : EvG X S e Γ μ fun d μ1 => BlG X S sts (Γ.set i (some d)) μ1 E) (hi : X.N[i]? = some x := by rfl) (hx : Loc X.env.scope x := by first | exact Or.inl rfl | exact Or.inr rfl)
    (hf : X.fn x = true ∨ X.env.scope.names.lookup x = some .local := by first | exact .inl rfl | exact .inr rfl) : BlG X S (.Assign [.Name x pos'] e pos :: sts) Γ μ E := bl_cons (st_set nd hi hx h hs hf)
end
theorem isl {α : Type} [Rpd α] {μ : Mem} {d : D} {l : List α} (h : d = rp l) : IsL μ d l := by
  rw [h]
  exact .val _
def fst {α : Type} [DecidableEq α] (x : α) : List α → Nat
  | [] => 0
  | y :: l => if y = x then 0 else fst x l + 1
section
variable {α : Type} [DecidableEq α]
variable [Dt α] {X : Cx} {S : Sg} {μ : Mem} {Q : QD} {d e : D}
end
end GL
namespace GL
open PySem L2 PySem.Spec PyProof.Rows
theorem str_app_len (x y : Str) : (x ++ y).length = x.length + y.length := by
  rw [cs_len, cs_len, cs_len, cs_app, List.length_append]
section
variable {X : Cx} {σ : L2.St} {H : Hp}
def FJ (X : Cx) (σ : L2.St) (H : Hp) (es : List Expr) (n : Nat) : Prop := ∃ ts, PJ X es ts ∧ ∀ acc : Str, acc.length + n ≤ sizeLine → tJs ts acc σ H (fun _ H1 => H1 = H)
end
instance {α β : Type} [Rpd α] [Rpd β] : Rpd (α ⊕ β) := ⟨fun x => match x with | .inl a => rp a | .inr b => rp b⟩
structure Sq (α : Type) where
  tup : Bool
  l : List α
instance {α : Type} [Rpd α] : Rpd (Sq α) := ⟨fun x => match x.tup with | true => .tup (x.l.map rp) | false => .lst (x.l.map rp)⟩
section
variable {X : Cx} {S : Sg} {μ : Mem} {tg : Expr} {R : RI} {α : Type} [Rpd α]
theorem it_S (xs : Sq α) (k : R (fun _ => True) (xs.l.map rp) μ) (hK : X.K = S.K := by rfl) : IterV X S tg (rp xs) μ R := by
  obtain ⟨b, l⟩ := xs
  cases b with
  | true => exact iv_tup hK k
  | false => exact iv_lst hK k
end
section
variable {A V : Type}
def sgC (C : Addr) (args : A → List D) (flds : V → List (Str × D)) (m : A → (V → Prop) → KX → Prop) : SpG := fun ds μ Q E => ∃ x a k kx, ds = .ref x :: args a ∧ μ = [(x, .ins C [])] ∧ m a k kx ∧ (∀ v, k v → Q .non [(x, .ins C (flds v))]) ∧ ∀ c fs, kx c fs → Plain fs → E c fs []
variable {C : Addr} {args : A → List D} {flds : V → List (Str × D)}
end
section
variable {P : Program} {w : World} {K : PySem.W.Frag} {mg : Str → Option Value} {base : Heap} {S : Sg0} {k : Nat} {f : Addr} {fd : FuncData} {N ps : List Str} {x qual : Str} {params : Arguments} {body : List Stmt} {scope : Scope} {dvs : List V} {kws : List (Str × V)}
variable {A W : Type} {args : A → List D} {flds : W → List (Str × D)} {C : Addr}
abbrev EC (C : Addr) (x : Addr) (flds : W → List (Str × D)) (k : W → Prop) : EG := { nx := fun _ μ' => ∃ (r : W) (μ0 : Mem), μ' = (x, .ins C (flds r)) :: μ0 ∧ k r, rt := fun _ _ => False }
end
section
variable {X : Cx} {S : Sg0} {Γ : Gm} {μ : Mem} {Q : QD} {E : EG} {sts : List Stmt}
theorem pass_nx {Y : Cx} : Passes (L2.CX Y.prog Y.w) Y (fun _ _ _ => False) := fun _ _ _ _ _ _ _ ⟨_, _, _, _, _, _, _, _, _, _, _, _, z⟩ => z.elim
theorem xfm {P : D → Prop} {a C : Addr} {fs : List (Str × D)} {f : Str} (y : D) (h1 : (a, M.ins C fs) ∈ μ) (h2 : fs.lookup f = some y) (k : P y) : ∃ y, FldG S μ (.ref a) C f y ∧ P y := ⟨y, .ins h1 h2, k⟩
end
end GL
namespace GL
open PySem L2
section
variable {α β σ : Type} {xs : List α}
theorem at_lt {i : Nat} {x : α} (h : xs[i]? = some x) : i < xs.length := by
  rcases Nat.lt_or_ge i xs.length with h' | h'
  · exact h'
  · rw [List.getElem?_eq_none h'] at h; cases h
theorem forI_fn {s0 : σ} {step : α → σ → (σ → Prop) → Prop} {K : σ → Prop} (F : List α → σ) (h0 : F [] = s0) (hs : ∀ i x, xs[i]? = some x → ∀ J : σ → Prop, J (F (xs.take i ++ [x])) → step x (F (xs.take i)) J) (hk : K (F xs)) : forI xs s0 step K := by
  refine ⟨fun i s => s = F (xs.take i), h0.symm, ?_, ?_⟩
  · rintro i x s hx rfl
    refine hs i x hx _ ?_
    show _ = F (xs.take (i + 1))
    rw [take_snoc hx]
  · rintro s rfl
    rw [List.take_length]
    exact hk
end
section
variable {α : Type} [DecidableEq α]
def onceL (l : List α) : List α := l.foldl (fun acc x => if inb x acc = true then acc else acc ++ [x]) []
theorem onceL_snoc (l : List α) (x : α) : onceL (l ++ [x]) = if inb x (onceL l) = true then onceL l else onceL l ++ [x] := by
  unfold onceL
  rw [List.foldl_append]
  rfl
theorem list_rev {P : List α → Prop} (h0 : P []) (hs : ∀ l x, P l → P (l ++ [x])) : ∀ l, P l := list_snoc h0 hs
theorem onceL_len : ∀ l : List α, (onceL l).length ≤ l.length := list_rev (Nat.le_refl _) fun l x h => by
  rw [onceL_snoc, List.length_append]
  split
  · exact Nat.le_trans h (Nat.le_add_right _ _)
  · rw [List.length_append]
    exact Nat.add_le_add_right h _
theorem onceL_nd : ∀ l : List α, (onceL l).Nodup := list_rev List.nodup_nil fun l y h => by
  rw [onceL_snoc]
  split
  · exact h
  · rename_i e
    rw [List.nodup_append]
    refine ⟨h, by simp, fun a ha b hb => ?_⟩
    rw [List.mem_singleton] at hb
    subst hb
    exact fun z => e (inb_t.mpr (z ▸ ha))
theorem onceL_same : ∀ l : List α, l.Nodup → onceL l = l := list_rev (fun _ => rfl) fun l y h hn => by
  rw [List.nodup_append] at hn
  rw [onceL_snoc, h hn.1, if_neg]
  intro z
  exact hn.2.2 y (inb_t.mp z) y (List.mem_singleton_self _) rfl
end
theorem ixN_nat {n i : Nat} (h : i < n) : ixN n (i : Int) = some i := by
  unfold ixN
  rw [if_pos (by omega), if_pos (by omega)]
  simp
theorem atN {α : Type} {l : List α} {i : Nat} {x : α} (h : l[i]? = some x) : atI l (i : Int) = some x := by
  unfold atI
  rw [ixN_nat (at_lt h)]
  exact h
theorem atI_ge {α : Type} {l : List α} {r : Int} (h1 : 0 ≤ r) (h2 : r < l.length) : ∃ x, x ∈ l ∧ atI l r = some x := by
  obtain ⟨n, rfl⟩ := Int.eq_ofNat_of_zero_le h1
  have hn : n < l.length := by omega
  exact ⟨l[n], List.getElem_mem hn, atN (List.getElem?_eq_getElem hn)⟩
theorem atI_neg {α : Type} {l : List α} {k : Nat} (h : k < l.length) : atI l (-1 - (k : Int)) = some (l[l.length - 1 - k]'(by omega)) := by
  unfold atI ixN
  rw [if_neg (by omega), if_pos (by omega)]
  show l[_]? = _
  rw [show ((-1 - (k : Int)) + (l.length : Int)).toNat = l.length - 1 - k by omega, List.getElem?_eq_getElem (by omega)]
end GL
namespace GL
open PySem L2 PySem.Spec PyProof.Rows
inductive DrfK (μ : Mem) : D → List (Key × D) → Prop
  | val {ks : List Key} {ds : List D} : ks.length = ds.length → DrfK μ (.dK ks ds) (ks.zip ds)
  | ref {a : Addr} {kvs : List (Key × D)} : (a, M.dK kvs) ∈ μ → DrfK μ (.ref a) kvs
theorem RpA.zipK {S : Sg0} {Hv : Hp} : ∀ {ks : List Key} {vs : List V} {ds : List D}, RpA S Hv vs ds → RpK S Hv (ks.zip vs) (ks.zip ds)
  | [], _, _, _ => by simp; exact .nil
  | _ :: _, _, _, .nil => .nil
  | _ :: _, _, _, .cons r t => .cons r (RpA.zipK t)
theorem DrfK.at {S : Sg0} {F N H : Hp} {μ : Mem} {d : D} {kvs : List (Key × D)} {x : V} (h : DrfK μ d kvs) (r : RelM0 S F N H μ) (rx : Rp S (vis N H (adr μ)) x d) : ∃ a vs, x = .ref a ∧ Rd H a (.dK vs) ∧ RpK S (vis N H (adr μ)) vs kvs := by
  cases h with
  | val hl =>
    cases rx with
    | dK h1 h2 h3 => exact ⟨_, _, rfl, .inr ⟨_, vis_le _ _ h1⟩, h3.zipK⟩
  | ref hm =>
    cases rx
    obtain ⟨o, e, rm⟩ := r.find hm
    cases rm with
    | dK h => exact ⟨_, _, rfl, .inl e, h⟩
section
variable {X : Cx} {S : Sg} {o i e f : Expr} {Γ : Gm} {μ : Mem} {Q : QD} {T : Bool → Mem → Prop} {pos p1 p2 apos cpos : Pos} {d : D}
theorem RpK.isSome {S : Sg0} {Hv : Hp} {vs : List (Key × V)} {kvs : List (Key × D)} (h : RpK S Hv vs kvs) (k : Key) : (valV vs k).isSome = (valD kvs k).isSome := by
  rcases h.val k with ⟨v, d, h1, h2, _⟩ | ⟨h1, h2⟩ <;> rw [h1, h2] <;> rfl
theorem et_dniK (hu : X.A.units + 1 < cLine) (h : EvG X S i Γ μ fun y μ1 => EvG X S o Γ μ1 fun d μ2 => ∃ kvs k, DrfK μ2 d kvs ∧ y = kD k ∧ T (!(valD kvs k).isSome) μ2) (hb : behindInMarks .NotIn o = false := by rfl) : EvT X S (.Compare i [.NotIn] [o] pos) Γ μ T := by
  intro F N σ H r rs
  refine tx_of (pt_cmp (pc_dnotin hu pe_ex pe_ex) hb) (h.use r rs fun v H1 y μ1 r1 rs1 ry q => ?_)
  refine q.use r1 rs1 fun x H2 d μ2 r2 rs2 rd ⟨kvs, k, hd, e1, qq⟩ => ?_
  obtain ⟨a, vs, e2, hr, hk⟩ := hd.at r2.toRelM0 rd
  subst e1 e2
  have e3 := kV_of ry
  subst e3
  exact ⟨a, valV vs k, rfl, .inl ⟨vs, k, hr, rfl, rfl⟩, _, rfl, μ2, r2.weakF (r.ext.trans r1.ext), by rw [hk.isSome]; exact qq⟩
theorem ev_dgetK (hu : X.A.units + 1 < cLine) (h : EvG X S o Γ μ fun d μ1 => EvG X S i Γ μ1 fun y μ2 => ∃ kvs k z, DrfK μ2 d kvs ∧ y = kD k ∧ valD kvs k = some z ∧ Q z μ2) (hs : NoSl i := by exact fun _ _ => rfl) : EvG X S (.Subscript o i pos) Γ μ Q := by
  intro F N σ H r rs
  refine ex_of (pe_dget hu pe_ex pe_ex hs) (h.use r rs fun x H1 d μ1 r1 rs1 rd q => ?_)
  refine q.use r1 rs1 fun v H2 y μ2 r2 rs2 ry ⟨kvs, k, z, hd, e1, hz, q⟩ => ?_
  obtain ⟨a, vs, e2, hr, hk⟩ := hd.at r2.toRelM0 (rd.ext r2.ext)
  subst e1 e2
  have e3 := kV_of ry
  subst e3
  rcases hk.val k with ⟨v, d', h1, h2, h3⟩ | ⟨h1, h2⟩
  · rw [hz] at h2
    cases h2
    exact ⟨a, v, rfl, .inl ⟨vs, k, hr, rfl, h1.symm⟩, _, μ2, r2.weakF (r.ext.trans r1.ext), h3, q⟩
  · rw [hz] at h2
    cases h2
theorem st_dputK {E : EG} (hu : X.A.units + 1 < cLine) (h : EvG X S f Γ μ fun y μ1 => EvG X S o Γ μ1 fun d μ2 => EvG X S i Γ μ2 fun z μ3 => ∃ a kvs k μ4, d = .ref a ∧ z = kD k ∧ kvs.length < 16777216 ∧ Upd a (.dK kvs) (.dK (putKD kvs k y)) μ3 μ4 ∧ E.nx Γ μ4)
    (hs : swapsWith f (some (.Subscript o i p2)) pos.line X.env = pure false) : StG X S (.Assign [.Subscript o i p2] f pos) Γ μ E := by
  intro F N σ H r rs
  refine sx_of (ps_dput hu pe_ex pe_ex pe_ex hs) (h.use r rs fun v H1 y μ1 r1 rs1 ry q => ?_)
  refine q.use r1 rs1 fun x H2 d μ2 r2 rs2 rd q => ?_
  refine q.use r2 rs2 fun w H3 z μ3 r3 rs3 rz ⟨a, kvs, k, μ4, e1, e2, hl, u, qq⟩ => ?_
  subst e1
  cases rd
  subst e2
  have e3 := kV_of rz
  subst e3
  obtain ⟨ob, e3, rm⟩ := r3.find u.mem
  cases rm with
  | @dK _ vs hvs =>
  refine ⟨a, _, rfl, DPut.k e3 (by rw [hvs.length, sizeLine_eq]; exact hl), ?_⟩
  have r5 := r3.put u (o := .dK (putK vs k v)) (.dK (hvs.put (ry.ext (r2.ext.trans r3.ext))))
  refine ⟨Γ, μ4, r5.weakF (r.ext.trans (r1.ext.trans r2.ext)), ?_, qq⟩
  rw [u.adr, vis_upd (List.mem_map_of_mem u.mem)]
  exact rs3
end
section
variable {X : Cx} {S : Sg} {Γ : Gm} {μ μ' : Mem} {E : EG} {sts : List Stmt}
end
abbrev kN (x : Nm) : Key := .inr x.1
structure Dc (α : Type) where
  l : List (Nm × α)
instance {α : Type} [Rpd α] : Rpd (Dc α) := ⟨fun x => .dK (x.l.map (kN ·.1)) (x.l.map (rp ·.2))⟩
def look {α : Type} (l : List (Nm × α)) (k : Nm) : Option α := (l.find? fun p => decide (p.1 = k)).map (·.2)
def kvD {α : Type} [Rpd α] (l : List (Nm × α)) : List (Key × D) := l.map fun p => (kN p.1, rp p.2)
theorem kN_inj {x y : Nm} : kN x = kN y ↔ x = y := ⟨fun h => Subtype.ext (Sum.inr.inj h), fun h => by rw [h]⟩
section
variable {α : Type} [Rpd α]
theorem val_look (l : List (Nm × α)) (k : Nm) : valD (kvD l) (kN k) = (look l k).map rp := by
  unfold valD kvD look
  rw [List.find?_map]
  have e : ((fun kv : Key × D => decide (kv.1 = kN k)) ∘ fun p : Nm × α => (kN p.1, rp p.2)) = fun p => decide (p.1 = k) := by
    funext p
    exact decide_eq_decide.mpr kN_inj
  rw [e]
  cases l.find? fun p => decide (p.1 = k) <;> rfl
variable {X : Cx} {S : Sg} {o i e f : Expr} {Γ : Gm} {μ : Mem} {Q : QD} {T : Bool → Mem → Prop} {pos p1 p2 apos cpos : Pos} {d : D}
end
section
variable {X : Cx} {S : Sg} {e : Expr} {Γ : Gm} {μ : Mem} {R : RI} {elts : List Expr} {kk : Nat} {tpos apos cpos : Pos} {α : Type} [Rpd α]
end
end GL
namespace GL
open PySem L2 PySem.Spec PyProof.Rows ClX
section
variable {X : Cx} {S : Sg} {CX : CXT} {k : Nat} {f C : Addr} {fd : FuncData} {ps : List Str} {sg : SpG} {mc : Value} {m : Str} {pos apos p2 : Pos} {o e i value : Expr} {es : List Expr} {Γ : Gm} {μ : Mem} {Q : QD} {E : EG}
theorem ev_cfn {pl : Sem Bool} (hm' : MonoG sg) (cr : CRead X.K C mc) (cv : CVal X.K C mc m (.ref f) (.ref f)) (F : FnOk X.prog X.w X.K X.mg X.base CX k f fd ps (spG S sg)) (hr : Room k X.A) (hk : PySem.W.keepIn X.K (.ref f) = true) (hb : Binds X.K fd ps []) (hx : Passes CX X S.wx)
    (h : EvG X S o Γ μ fun d μ1 => d = .ref C ∧ EvA X S (e :: es) Γ μ1 fun ds μ2 => AskG S sg ds μ2 Q)
    (hst : starEach (e :: es) X.env = (false, eval e X.env) :: starEach es X.env := by rfl) (hpl : (backTo pos (starEach es X.env)).any (·.1) = false := by rfl)
    (ht : eval (.Call (.Attribute o m apos) (e :: es) [] pos) X.env = (do
      let ov ← eval o X.env
      standAt apos.atName
      let (fv, first) ← holding [ov] (getMethod ov m pl)
      callWith pos fv first (backTo pos (starEach (e :: es) X.env)) (backToKw pos (keywordEach [] X.env))) := by rfl) :
    EvG X S (.Call (.Attribute o m apos) (e :: es) [] pos) Γ μ Q := by
  intro F' N σ H r rs
  refine ⟨fun pins s I => ?_⟩
  refine PySem.W.methodCall_KW (pl := pl) (thn (EvG.use (P := fun v H1 => v = .ref C ∧ AXt X (e :: es) σ H1 fun vs H2 => spG S sg vs H2 (EndE S F' N Q) S.wx) h r rs (fun v H1 d μ1 r1 rs1 rd ⟨e1, q2⟩ => ?_) pins s I) fun u s1 ⟨x, H1, I1, rx, ex, q⟩ => ?_) ht
  · subst e1
    cases rd
    exact ⟨rfl, q2.use r1 rs1 fun vs H2 ds μ2 r2 rs2 rds q => ask_sp hm' (r2.weakF (r.ext.trans r1.ext)) rds q⟩
  · subst ex
    obtain rfl : u = Value.ref C := rx
    refine PySem.W.method_cls I1.kIn cr.ga (getcval_ok I1 cr cv fun s2 I2 => ?_)
    refine PySem.W.callWith_K (first := []) (h₀ := X.base) I.ok.mod.kin hk (thn (q pos pins s2 I2) fun us s3 ⟨vs, H2, I3, rv, q2⟩ => ⟨I3.kIn, ?_⟩) hst hpl
    exact run_fn F hr hb .nil hx I3 rv (by rw [List.append_nil]; exact q2)
theorem st_setOwn {ns : List Str} (M : MethG X S CX k C f "__setitem__" fd ps sg) (hq : PySem.W.noSeq X.K C = true) (hr : Room k X.A)
    (h : EvG X S value Γ μ fun y μ1 => EvG X S o Γ μ1 fun d μ2 => EvG X S i Γ μ2 fun z μ3 => Rcv S μ3 d C ns ∧ AskG S sg [d, z, y] μ3 fun _ μ4 => E.nx Γ μ4)
    (hs : swapsWith value (some (.Subscript o i p2)) pos.line X.env = pure false) : StG X S (.Assign [.Subscript o i p2] value pos) Γ μ E := by
  intro F' N σ H r rs
  refine ⟨fun pins s I => ?_⟩
  refine wpAny_Assign_Subscript (thn (EvG.use (P := fun y H1 => EXt X o σ H1 fun d H2 => EXt X i σ H2 fun z H3 => ∃ a dx fvs, d = .ref a ∧ H3 a = some (.ins C dx fvs) ∧ spG S sg [d, z, y] H3 (fun _ H4 => EndS S F' N E.nx σ H4) S.wx) h r rs (fun y H1 dy μ1 r1 rs1 ry q => ?_) pins s I) ?_) hs
  · refine q.use r1 rs1 fun d H2 dd μ2 r2 rs2 rd q => ?_
    refine q.use r2 rs2 fun z H3 dz μ3 r3 rs3 rz ⟨hrc, q⟩ => ?_
    have rd' := rd.ext r3.ext
    obtain ⟨a, dx, fvs, e1, e2, _⟩ := hrc.at r3.toRelM0 rd'
    refine ⟨a, dx, fvs, e1, e2, ?_⟩
    have w3 : RelM S (vis N H (adr μ)) N H3 μ3 := r3.weakF (r1.ext.trans r2.ext)
    have := ask_sp M.mono w3 (.cons rd' (.cons rz (.cons ((ry.ext r2.ext).ext r3.ext) .nil))) q
    obtain ⟨F0, N0, ds, μ0, q1, q2, q3⟩ := this
    refine ⟨F0, N0, ds, μ0, q1, q2, M.mono _ _ _ _ _ _ q3 (fun d μ' hh v H' r' rv' => ?_) fun _ _ _ z => z⟩
    obtain ⟨d', μ4, r4, _, q4⟩ := hh v H' r' rv'
    exact ⟨Γ, μ4, r4.weakF r.ext, RelS.ext r4.ext rs, q4⟩
  · intro v s1 ⟨y, H1, I1, ry, q1⟩
    refine thn (q1 pins s1 I1) fun ov s2 ⟨d, H2, I2, rd, q2⟩ => ?_
    refine thn (q2 pins s2 I2) fun iv s3 ⟨z, H3, I3, rz, a, dx, fvs, e1, e2, q3⟩ => ?_
    subst e1
    cases rd
    obtain ⟨mA, O, _⟩ := ins_get I3.hok e2
    obtain ⟨od, J, _⟩ := O.look
    obtain ⟨m, hF⟩ := I3.fr
    refine PySem.W.ksp_setItem hF I3.ok.mod.kin J hq M.at_ M.fn ?_
    exact thn (run_at (vs := [.ref a, z, y]) M.ok hr rfl M.hb M.hx I3 (.cons rfl (.cons rz (.cons ry .nil))) q3) fun _ _ ⟨_, H', I', _, q⟩ => ⟨σ, H', I', q⟩
end
end GL
namespace GL
open PySem L2 PySem.Spec PyProof.Rows
structure KindV where
  many : Bool
  order : List Nm
  leads : Dc (List Nm)
  rows : List Nm
  doors : Dc (Tu Nm × Tu Nm)
  name : Nm
abbrev kNum (m : Bool) : Nat := if m then 5 else 4
instance : Rpd KindV := ⟨fun x => .obj (kNum x.many) [rp x.order, rp x.leads, rp x.rows, rp x.doors, rp x.name]⟩
structure KAd where
  o : Addr
  d : Addr
  e : Addr
  ls : List Addr
def lsM : List Addr → List (List Nm) → Mem
  | a :: as, l :: ll => (a, .lst (l.map rp)) :: lsM as ll
  | _, _ => []
abbrev kvR (order : List Nm) (ls : List Addr) : List (Key × D) := (order.map kN).zip (ls.map D.ref)
def kindM (C x : Addr) (A : KAd) (κ : KindV) : Mem :=
  (x, .ins C [("order", .ref A.o), ("leads", .ref A.d), ("rows", rp κ.rows), ("doors", .ref A.e), ("name", rp κ.name)]) :: (A.o, .lst (κ.order.map rp)) :: (A.d, .dK (kvR κ.order A.ls)) :: (A.e, .dK (kvD κ.doors.l)) :: lsM A.ls (κ.leads.l.map (·.2))
structure KOk (κ : KindV) : Prop where
  nd : κ.order.Nodup
  le : κ.leads.l.map (·.1) = κ.order
  ro : κ.rows = κ.order
  dk : κ.doors.l.map (·.1) = κ.order
  few : κ.order.length ≤ 1000000
theorem KOk.ll {κ : KindV} (h : KOk κ) : κ.leads.l.length = κ.order.length := by
  rw [← h.le, List.length_map]
theorem kvR_val : ∀ {order : List Nm} {ls : List Addr} (k : Nm), order.length = ls.length → (valD (kvR order ls) (kN k)).isSome = inb k order
  | [], [], k, _ => by simp [kvR, valD, inb]
  | [], _ :: _, _, h => by simp at h
  | _ :: _, [], _, h => by simp at h
  | x :: order, a :: ls, k, h => by
    have ih := kvR_val (order := order) (ls := ls) k (by simpa using h)
    unfold valD kvR at ih ⊢
    rw [List.map_cons, List.map_cons, List.zip_cons_cons]
    by_cases e : x = k
    · rw [List.find?_cons_of_pos (by simp [e])]
      exact (inb_t.mpr (e ▸ List.mem_cons_self)).symm
    · rw [List.find?_cons_of_neg (by simp only [decide_eq_true_eq]; exact fun z => e (kN_inj.mp z)), ih]
      unfold inb
      refine decide_eq_decide.mpr ⟨fun z => List.mem_cons_of_mem _ z, fun z => ?_⟩
      rcases List.mem_cons.mp z with z | z
      · exact absurd z.symm e
      · exact z
theorem kvR_at : ∀ {leads : List (Nm × List Nm)} {ls : List Addr} {k : Nm} {l : List Nm}, leads.length = ls.length → look leads k = some l →
    ∃ b, valD (kvR (leads.map (·.1)) ls) (kN k) = some (.ref b) ∧ (b, M.lst (l.map rp)) ∈ lsM ls (leads.map (·.2)) ∧
      ∀ l', Upd b (.lst (l.map rp)) (.lst (l'.map rp)) (lsM ls (leads.map (·.2))) (lsM ls ((leads.map fun p => if p.1 = k then (p.1, l') else p).map (·.2))) ∨ ¬ (leads.map (·.1)).Nodup
  | [], _, _, _, _, h => by simp [look] at h
  | _ :: _, [], _, _, h, _ => by simp at h
  | (x, y) :: leads, a :: ls, k, l, h, hl => by
    by_cases e : x = k
    · have : y = l := by
        unfold look at hl
        rw [List.find?_cons_of_pos (by simp [e])] at hl
        simpa using hl
      subst this e
      refine ⟨a, ?_, .head _, fun l' => ?_⟩
      · unfold valD
        rw [List.map_cons]
        show Option.map _ (List.find? _ ((kN x, D.ref a) :: _)) = _
        rw [List.find?_cons_of_pos (by simp)]
        rfl
      · by_cases hx : x ∈ leads.map (·.1)
        · exact .inr fun z => (List.nodup_cons.mp z).1 hx
        · refine .inl ?_
          have e1 : (leads.map fun p => if p.1 = x then (p.1, l') else p) = leads := by
            conv => rhs; rw [← List.map_id leads]
            refine List.map_congr_left fun p hp => ?_
            rw [if_neg fun (z : p.1 = x) => hx (by rw [← z]; exact List.mem_map_of_mem hp)]
            rfl
          rw [List.map_cons, List.map_cons, if_pos rfl, e1]
          exact .here
    · have hl' : look leads k = some l := by
        unfold look at hl ⊢
        rwa [List.find?_cons_of_neg (by simp [e])] at hl
      obtain ⟨b, h1, h2, h3⟩ := kvR_at (leads := leads) (ls := ls) (by simpa using h) hl'
      refine ⟨b, ?_, .tail _ h2, fun l' => ?_⟩
      · unfold valD at h1 ⊢
        rw [List.map_cons]
        show Option.map _ (List.find? _ ((kN x, D.ref a) :: _)) = _
        rw [List.find?_cons_of_neg (by simp only [decide_eq_true_eq]; exact fun z => e (kN_inj.mp z))]
        exact h1
      · rcases h3 l' with h3 | h3
        · refine .inl ?_
          rw [List.map_cons, List.map_cons, if_neg e]
          exact .there h3
        · exact .inr fun z => h3 (List.nodup_cons.mp z).2
theorem look_some {α : Type} {l : List (Nm × α)} {k : Nm} (h : k ∈ l.map (·.1)) : ∃ v, look l k = some v ∧ (k, v) ∈ l := by
  unfold look
  cases e : l.find? fun p => decide (p.1 = k) with
  | none =>
    obtain ⟨p, hp, rfl⟩ := List.mem_map.mp h
    exact absurd (decide_eq_true rfl) (List.find?_eq_none.mp e p hp)
  | some p =>
    have h1 := List.mem_of_find?_eq_some e
    have h2 : p.1 = k := by
      have := List.find?_some e
      simpa using this
    exact ⟨p.2, rfl, by rw [← h2]; exact h1⟩
def allowF (κ : KindV) (b c : Nm) : KindV := { κ with leads := ⟨κ.leads.l.map fun p => if p.1 = b then (p.1, if c ∈ p.2 then p.2 else p.2 ++ [c]) else p⟩ }
theorem allow_ok {κ : KindV} (h : KOk κ) (b c : Nm) : KOk (allowF κ b c) := by
  refine ⟨h.nd, ?_, h.ro, h.dk, h.few⟩
  show (κ.leads.l.map _).map _ = κ.order
  rw [← h.le]
  rw [List.map_map]
  refine List.map_congr_left fun p _ => ?_
  show (if p.1 = b then _ else p).1 = p.1
  split <;> rfl
def setF' (κ : KindV) (k : Nm) (v : Tu Nm × Tu Nm) : KindV := { κ with doors := ⟨κ.doors.l.map fun p => if p.1 = k then (p.1, v) else p⟩ }
theorem set_ok {κ : KindV} (h : KOk κ) (k : Nm) (v : Tu Nm × Tu Nm) : KOk (setF' κ k v) := by
  refine ⟨h.nd, h.le, h.ro, ?_, h.few⟩
  show (κ.doors.l.map _).map _ = κ.order
  rw [← h.dk]
  rw [List.map_map]
  refine List.map_congr_left fun p _ => ?_
  show (if p.1 = k then _ else p).1 = p.1
  split <;> rfl
theorem put_kvD {α : Type} [Rpd α] {l : List (Nm × α)} {k : Nm} (v : α) (h : k ∈ l.map (·.1)) : putKD (kvD l) (kN k) (rp v) = kvD (l.map fun p => if p.1 = k then (p.1, v) else p) := by
  unfold putKD kvD
  have e : ((l.map fun p => (kN p.1, (rp p.2 : D))).any fun kv => decide (kv.1 = kN k)) = true := by
    obtain ⟨p, hp, rfl⟩ := List.mem_map.mp h
    rw [List.any_map]
    exact List.any_eq_true.mpr ⟨p, hp, by simp⟩
  rw [if_pos e, List.map_map, List.map_map]
  refine List.map_congr_left fun p _ => ?_
  show (if kN p.1 = kN k then (kN p.1, rp v) else (kN p.1, rp p.2)) = (kN (if p.1 = k then (p.1, v) else p).1, rp (if p.1 = k then (p.1, v) else p).2)
  by_cases e : p.1 = k
  · rw [if_pos (kN_inj.mpr e), if_pos e]
  · rw [if_neg (fun z => e (kN_inj.mp z)), if_neg e]
end GL
namespace GL
open PySem L2 PySem.Spec PyProof.Rows
theorem RelM0.adopt {S : Sg0} {F N H : Hp} {μ : Mem} {p : Addr} {o : HO} {m : M} (r : RelM0 S F (upd N p o) H μ) (hN : N p = none) (hm : RpM S (vis (upd N p o) H (adr μ)) m o) : RelM0 S F N H ((p, m) :: μ) ∧ Ex (vis (upd N p o) H (adr μ)) (vis N H (adr ((p, m) :: μ))) := by
  have hpm : p ∉ adr μ := fun h => by
    have := r.dis p h
    rw [upd_same] at this
    cases this
  have ex : Ex (vis (upd N p o) H (adr μ)) (vis N H (adr ((p, m) :: μ))) := fun b u e => by
    obtain ⟨h1, h2, h3⟩ := vis_in e
    have hb : b ≠ p := fun z => by rw [z, upd_same] at h1; cases h1
    refine vis_mk h3 (by rwa [upd_ne hb] at h1) fun z => ?_
    rcases List.mem_cons.mp z with z | z
    · exact hb z
    · exact h2 z
  refine ⟨⟨fun b u h => r.hid b u (by rw [upd_ne (ne_of_none h hN)]; exact h), fun b hb => ?_, r.ext.trans ex, List.nodup_cons.mpr ⟨hpm, r.nd⟩, fun q hq => ?_, fun b xs h => r.tup b xs (by rw [upd_ne (ne_of_none h hN)]; exact h)⟩, ex⟩
  · rcases List.mem_cons.mp hb with z | z
    · exact z ▸ hN
    · have := r.dis b z
      rwa [upd_ne (fun (e : b = p) => hpm (e ▸ z))] at this
  · rcases List.mem_cons.mp hq with z | z
    · subst z
      exact ⟨o, r.hid p o upd_same, hm.ext ex⟩
    · obtain ⟨u, h1, h2⟩ := r.mem q z
      exact ⟨u, h1, h2.ext ex⟩
abbrev RDc (X : Cx) (S : Sg) (tg kx vx : Expr) (scope : Scope) (vs : List Nat) (Γ : Gm) (Q : List (Key × D) → Mem → Prop) : RI := fun Km ds μ1 => ∃ I : Nat → List (Key × D) → Mem → Prop, I 0 [] μ1 ∧ (∀ i kvs μ', I i kvs μ' → Km μ') ∧
    (∀ i d kvs μ', ds[i]? = some d → I i kvs μ' → ∀ k : Bk, TgG (k.cx X scope) S vs tg d (wipeG Γ vs) μ' fun Γ2 μ2 => ∀ k : Bk, EvG (k.cx X scope) S kx Γ2 μ2 fun y μ3 => ∀ k : Bk, EvG (k.cx X scope) S vx Γ2 μ3 fun z μ4 => ∃ key, y = kD key ∧ kvs.length < 16777216 ∧ I (i + 1) (putKD kvs key z) μ4) ∧
    (∀ kvs μ', I ds.length kvs μ' → Q kvs μ')
section
variable {X : Cx} {S : Sg} {tg iter kx vx : Expr} {scope : Scope} {own : List (Str × Nat)} {Γ : Gm} {μ : Mem} {pos : Pos}
theorem ev_dcM {Q : QD} {vs : List Nat} (hc : X.calm = true) (hN : X.N.Nodup) (ok : BlkOk X.N X.env.scope scope own) (hvs : own.map (·.2) = vs) (hi : IterG X S tg iter Γ μ (RDc X S tg kx vx scope vs Γ fun kvs μ' => ∀ D, D ∉ adr μ' → Q (.ref D) ((D, .dK kvs) :: μ')))
    (hs : ∀ x, foldedSetIterable iter X.env x = pure x := by intro _; rfl) : EvG X S (.DictComp kx vx [⟨tg, iter, [], 0⟩] scope pos) Γ μ Q := by
  intro F N σ H r rs
  obtain ⟨wi, hpi, hw⟩ := hi
  subst hvs
  refine ex_of (pe_dc hc hN hpi ok (g := lcT' X scope tg) (tt := lcT X scope []) (tk := lcE X scope kx) (tv := lcE X scope vx) (fun s H C cl fp => ⟨fun pins s' σ H' v u Q' I rv h => (h ⟨s, H, C, cl, fp⟩) pins s' u I rv⟩) (fun s H C cl fp => ⟨fun pins s' σ H' Q' I h => pts_ex.run pins s' σ H' Q' I (h ⟨s, H, C, cl, fp⟩)⟩) (fun s H C cl fp => ⟨fun pins s' σ H' Q' I h => (h ⟨s, H, C, cl, fp⟩) pins s' I⟩) (fun s H C cl fp => ⟨fun pins s' σ H' Q' I h => (h ⟨s, H, C, cl, fp⟩) pins s' I⟩) hs) ?_
  refine hw F N σ H r rs _ fun J H1 ds Km μ1 r1 rs1 ok q => ?_
  obtain ⟨I, i0, ik, it, ie⟩ := q
  intro p hp
  have hNp : N p = none := hid_new r1.toRelM0 hp
  have ww : wipe (wipe σ (own.map (·.2))) (own.map (·.2)) = wipe σ (own.map (·.2)) := List.ext_getElem? fun j => by
    rw [wipe_at]
    by_cases hj : j ∈ own.map (·.2)
    · rw [if_pos hj, wipe_at, if_pos hj]
      cases σ[j]? <;> rfl
    · rw [if_neg hj]
  refine ⟨fun i m H' => m = ds.length - i ∧ i ≤ ds.length ∧ ∃ xs kvs μ', RelM S (vis N H1 (adr μ1)) (upd N p (.dK xs)) H' μ' ∧ RpK S.toSg0 (vis (upd N p (.dK xs)) H' (adr μ')) xs kvs ∧ I i kvs μ', ⟨_, rfl, Nat.zero_le _, [], [], μ1, (r1.top.hide hp).1, .nil, i0⟩, ?_⟩
  rintro i m H' ⟨rfl, hi, xs, kvs, μ', r', ra, hI⟩
  by_cases hlt : i < ds.length
  · have hd : ds[i]? = some ds[i] := List.getElem?_eq_getElem hlt
    obtain ⟨hgo, hy⟩ := (ok _ i H' μ' r' (ik i kvs μ' hI)).2 ds[i] hd
    refine .inr ⟨hgo, fun H2 => ∃ xs kvs μ2, RelM S (vis N H1 (adr μ1)) (upd N p (.dK xs)) H2 μ2 ∧ RpK S.toSg0 (vis (upd N p (.dK xs)) H2 (adr μ2)) xs kvs ∧ I (i + 1) kvs μ2, fun H2 q => ⟨_, by omega, rfl, hlt, q⟩, fun x H2 hx => ?_⟩
    obtain ⟨r2, rx⟩ := hy x H2 hx
    intro kb
    have rw2 : RelS S (vis (upd N p (.dK xs)) H2 (adr μ')) (wipe σ (own.map (·.2))) (wipeG Γ (own.map (·.2))) := RelS.ext (r'.ext.trans r2.ext) (RelS.wipe rs1 _)
    refine GXt.mono (it i _ kvs μ' hd hI kb _ _ (wipe σ (own.map (·.2))) H2 x r2 rw2 rx) (fun σ3 H3 hq => ?_)
    obtain ⟨hws, Γ3, μ3, r3, rs3, hb⟩ := hq
    refine ⟨by rw [hws, ww], ?_⟩
    intro kt
    refine ⟨_, fun b H4 => b = true ∧ H4 = H3, pts_nil, ⟨rfl, rfl⟩, fun b H4 hb4 => ?_⟩
    obtain ⟨rfl, rfl⟩ := hb4
    rw [if_pos rfl]
    intro ke
    refine (hb ke).use r3 rs3 fun y H4 dy μ4 r4 rs4 ry q4 => ?_
    intro kv
    refine (q4 kv).use r4 rs4 fun z H5 dz μ5 r5 rs5 rz ⟨key, e1, hz, q5⟩ => ?_
    subst e1
    have ey := kV_of ry
    subst ey
    have rtop := r5.weakF ((r'.ext.trans r3.ext).trans r4.ext)
    have ra5 : RpK S.toSg0 (vis (upd N p (.dK xs)) H5 (adr μ5)) xs kvs := ra.ext (r3.ext.trans (r4.ext.trans r5.ext))
    refine ⟨xs, key, rfl, r5.hid p _ upd_same, by rw [ra5.length, sizeLine_eq]; exact hz, putK xs key z, putKD kvs key dz, μ5, ?_⟩
    obtain ⟨r6, ev⟩ := rtop.rehide r1.top.iv hNp (o' := .dK (putK xs key z))
    refine ⟨r6, ?_, q5⟩
    rw [ev]
    exact ra5.put rz
  · have e : i = ds.length := by omega
    subst e
    obtain ⟨u1, u2⟩ := r'.toRelM0.adopt (m := .dK kvs) hNp (.dK ra)
    refine .inl ⟨(ok _ _ H' μ' r' (ik _ kvs μ' hI)).1 (Nat.le_refl _), .ref p, (p, .dK kvs) :: μ', ⟨u1.weakF (r.ext.trans r1.ext), r.iv⟩, .ref p, ?_⟩
    refine ie kvs μ' hI p fun h => ?_
    have := r'.dis p h
    rw [upd_same] at this
    cases this
end
theorem swaps_at {e o : Expr} {f : Str} {p : Pos} {l : Nat} {env : Env} : swapsWith e (some (.Attribute o f p)) l env = pure false := by cases e <;> rfl
theorem swaps_su {e o i : Expr} {p : Pos} {l : Nat} {env : Env} : swapsWith e (some (.Subscript o i p)) l env = pure false := by cases e <;> rfl
end GL
namespace GL
open PySem L2 PySem.Spec PyProof.Rows PySem.W
def sumB {α β : Type} (bl br : Bool) : α ⊕ β → Bool | .inl _ => bl | .inr _ => br
section
variable {X : Cx} {S : Sg} {CX : CXT} {k : Nat} {f g C : Addr} {fd : FuncData} {ps : List Str} {sg : SpG} {Γ : Gm} {μ : Mem} {Q : QD} {d e : D}
def sg_law : SpG := fun ds μ Q _ => ∃ ns : List Int, ds = [.scr ns] ∧ ns.length ≤ 63 ∧ μ = [] ∧ ∀ μ', Q (.bl true) μ'
theorem law_end {b : Bool} (h : b = true) (q : ∀ μ', Q (.bl true) μ') : Q (rp b) μ := by subst h; exact q _
end
section
variable {X : Cx} {S : Sg} {tg : Expr} {elt : Expr} {ifs : List Expr} {scope : Scope} {Γ : Gm} {μ : Mem}
end
end GL
namespace GL
open PySem L2 PySem.Spec PyProof.Rows
theorem RelM0.perm {S : Sg0} {F N H : Hp} {μ ν : Mem} (r : RelM0 S F N H μ) (h : ∀ q, q ∈ ν ↔ q ∈ μ) (nd : (adr ν).Nodup) : RelM0 S F N H ν ∧ vis N H (adr ν) = vis N H (adr μ) := by
  have ha : ∀ c, c ∈ adr ν ↔ c ∈ adr μ := fun c => by
    simp only [adr, List.mem_map]
    exact ⟨fun ⟨q, h1, h2⟩ => ⟨q, (h q).mp h1, h2⟩, fun ⟨q, h1, h2⟩ => ⟨q, (h q).mpr h1, h2⟩⟩
  have e : vis N H (adr ν) = vis N H (adr μ) := by
    funext c
    unfold vis
    by_cases k : (N c).isSome = true ∨ c ∈ adr μ
    · rw [if_pos k, if_pos (k.imp_right (ha c).mpr)]
    · rw [if_neg k, if_neg fun z => k (z.imp_right (ha c).mp)]
  exact ⟨⟨r.hid, fun c hc => r.dis c ((ha c).mp hc), by rw [e]; exact r.ext, nd, fun q hq => by rw [e]; exact r.mem q ((h q).mp hq), r.tup⟩, e⟩
def SubP (m μ : Mem) : Prop := ∃ m2, List.Perm m m2 ∧ List.Sublist m2 μ
theorem SubP.of {m μ : Mem} (h : List.Sublist m μ) : SubP m μ := ⟨m, .refl _, h⟩
theorem SubP.pm {m m2 μ : Mem} (p : List.Perm m m2) (h : List.Sublist m2 μ) : SubP m μ := ⟨m2, p, h⟩
theorem SubP.rel {S : Sg0} {F N H : Hp} {m μ : Mem} (h : SubP m μ) (r : RelM0 S F N H μ) : RelM0 S F N H m := by
  obtain ⟨m2, p, s⟩ := h
  exact ((r.drop s).perm (fun q => p.mem_iff) ((p.map _).nodup_iff.mpr (r.drop s).nd)).1
theorem SubP.ext {N H : Hp} {m μ : Mem} (h : SubP m μ) : Ex (vis N H (adr μ)) (vis N H (adr m)) := by
  obtain ⟨m2, p, s⟩ := h
  rw [← vis_perm p]
  exact sub_vis0 s
theorem SubP.adr {m μ : Mem} (h : SubP m μ) {a : Addr} (k : a ∈ GL.adr m) : a ∈ GL.adr μ := by
  obtain ⟨m2, p, s⟩ := h
  exact (s.map _).subset ((p.map _).subset k)
section
variable {A Z ρ Y : Type}
def sgU (args : A → Z → List D) (mem : A → Z → Mem → Prop) (post : A → Z → ρ → D → Mem → Prop) (posx : A → Z → Y → Mem → Prop) (m : A → (ρ → Prop) → (Y → KX) → Prop) : SpG := fun ds μ Q E =>
  ∃ a z k kx, ds = args a z ∧ mem a z μ ∧ m a k kx ∧ (∀ r d μ', k r → post a z r d μ' → Q d μ') ∧ (∀ c fs y μ', kx y c fs → Plain fs → posx a z y μ' → E c fs μ')
theorem sgU_mono {args : A → Z → List D} {mem : A → Z → Mem → Prop} {post : A → Z → ρ → D → Mem → Prop} {posx : A → Z → Y → Mem → Prop} {m : A → (ρ → Prop) → (Y → KX) → Prop} : MonoG (sgU args mem post posx m) :=
  fun _ _ _ _ _ _ ⟨a, z, k, kx, h1, h2, h3, q, e⟩ w we => ⟨a, z, k, kx, h1, h2, h3, fun r d μ' h h' => w _ _ (q r d μ' h h'), fun c fs y μ' h hp h' => we _ _ _ (e c fs y μ' h hp h')⟩
variable {P : Program} {w : World} {K : PySem.W.Frag} {mg : Str → Option Value} {base : Heap} {S : Sg0} {k : Nat} {f : Addr} {fd : FuncData} {N ps : List Str} {x qual : Str} {params : Arguments} {body : List Stmt} {scope : Scope} {dvs : List V} {kws : List (Str × V)}
abbrev EU (post : ρ → D → Mem → Prop) (k : ρ → Prop) : EG := { nx := fun _ μ' => ∃ r m1, List.Sublist m1 μ' ∧ k r ∧ post r .non m1, rt := fun d μ' => ∃ r m1, List.Sublist m1 μ' ∧ k r ∧ post r d m1 }
theorem fundU {args : A → Z → List D} {mem : A → Z → Mem → Prop} {post : A → Z → ρ → D → Mem → Prop} {posx : A → Z → Y → Mem → Prop} {m : A → (ρ → Prop) → (Y → KX) → Prop}
    (F : FunD K x qual params body scope dvs kws f fd) (sc : FnScope N ps scope) (len : ∀ a z, (args a z).length = ps.length)
    (hbody : ∀ (cdv : Value) (Ar : Around) (outer : List Env) (s : Shared) (H : Hp) (E : XK) (a : A) (z : Z) (μ : Mem) (kk : ρ → Prop) (kx : Y → KX), Room k (Ar.deeper (envOfC qual scope s.heap.objs.size f cdv)) →
      Takes (cxOf (L2.CX P w) P w K mg base N qual scope f cdv Ar outer s H E) (fun cls d _ H => E cls d H) → mem a z μ → m a kk kx →
      BlG (cxOf (L2.CX P w) P w K mg base N qual scope f cdv Ar outer s H E) ⟨S, fun c fs μ' => ∃ y m1, SubP m1 μ' ∧ kx y c fs ∧ Plain fs ∧ posx a z y m1, E⟩ body (startG N (args a z)) μ (EU (post a z) kk)) :
    FnOk P w K mg base (L2.CX P w) (k + 1) f fd ps (spG S (sgU args mem post posx m)) := by
  refine F.ok sc (fun vs H Q E h => ?_) (fun cdv A outer s H vs Q E hr h => ?_)
  · obtain ⟨_, _, ds, μ, _, rv, a, z, kk, kx, rfl, _⟩ := h
    rw [rv.length]
    exact len a z
  · obtain ⟨F0, N0, ds, μ, r, rv, a, z, kk, kx, rfl, hμ, hm, q0, qe⟩ := h
    refine ⟨_, pss_ex, ⟨fun pins s' I => ?_⟩⟩
    have tk : Takes (cxOf (L2.CX P w) P w K mg base N qual scope f cdv A outer s H E) (fun cls d _ H => E cls d H) := takes_of rfl rfl rfl rfl
    refine thn (hbody cdv A outer s H E a z μ kk kx hr tk hμ hm F0 N0 (L2.start N vs) H ⟨r, fun cls d H' ⟨c, dd, fs, gs, μ', e1, e2, hd, hl, hf, r', n1, n2, y, m1, sb, hk, hpl, hp⟩ => by
      subst e1 e2
      exact qe c gs y m1 hk hpl hp dd fs H' (sb.rel r') hd hl (hf.ext sb.ext) n1 (fun z => n2 (sb.adr z))⟩ (start_rel rv) pins s' I) fun fl s2 q => ?_
    cases fl with
    | next =>
      obtain ⟨σ', H', I', Γ', μ', r', rs', y, m1, sb, q, hp⟩ := q
      exact ⟨σ', H', I', q0 y _ m1 q hp .non H' (r'.toRelM0.drop sb) .non⟩
    | ret u =>
      obtain ⟨v, σ', H', I', rv', d', μ', r', rd, y, m1, sb, q, hp⟩ := q
      exact ⟨v, σ', H', I', rv', q0 y _ m1 q hp v H' (r'.toRelM0.drop sb) (rd.ext (sub_vis0 sb))⟩
    | brk => obtain ⟨σ', H', I', Γ', μ', r', rs', q⟩ := q; exact q.elim
    | cont => obtain ⟨σ', H', I', Γ', μ', r', rs', q⟩ := q; exact q.elim
theorem ask_u {S : Sg} {μ a1 b1 : Mem} {Q : QD} {ds : List D} {args : A → Z → List D} {mem : A → Z → Mem → Prop} {post : A → Z → ρ → D → Mem → Prop} {posx : A → Z → Y → Mem → Prop} {m : A → (ρ → Prop) → (Y → KX) → Prop} {k : ρ → Prop} {kx : Y → KX} (a : A) (z : Z)
    (sp : Split μ a1 b1) (hd : ds = args a z) (hm : mem a z a1) (h : m a k kx) (q : ∀ r d μ', k r → post a z r d μ' → Q d (μ' ++ b1)) (qe : ∀ c fs y μ', kx y c fs → Plain fs → posx a z y μ' → S.qx c fs (μ' ++ b1)) : AskG S (sgU args mem post posx m) ds μ Q :=
  ⟨a1, b1, sp, a, z, k, kx, hd, hm, h, q, qe⟩
end
end GL
namespace GL
open PySem L2 PySem.Spec PyProof.Rows
structure Lent (S : Sg0) (b : Bool) (cs : List Nat) (o : HO) : Prop where
  l : ∀ xs, o = .lst xs → b = false
  i : ∀ C dx vs, o = .ins C dx vs → ∀ c ∈ cs, S.cls c ≠ C
  nt : ∀ xs, o ≠ .tup xs
  nf : ∀ u v, o ≠ .frz u v
  ne : ∀ f, o ≠ .ext f
  nx : ∀ x, o ≠ .xd x
section
variable {S : Sg0} {H H' : Hp} {b : Bool} {cs : List Nat}
theorem rd_cut {a : Addr} {u : HO} (hz : ∀ a o, H a = some o → H' a = some o ∨ Lent S b cs o) (h : Rd H a u) (hu : ¬ Lent S b cs u) : Rd H' a u := by
  rcases h with h | ⟨o, h⟩
  · exact (hz _ _ h).elim .inl fun z => absurd z hu
  · exact (hz _ _ h).elim (fun z => .inr ⟨o, z⟩) fun z => absurd rfl (z.nf _ _)
mutual
theorem Rp.lose (hz : ∀ a o, H a = some o → H' a = some o ∨ Lent S b cs o) : ∀ {v : V} {d : D}, Rp S H v d → D.only b cs d = true → Rp S H' v d
  | _, _, .non, _ => .non
  | _, _, .bl b, _ => .bl b
  | _, _, .int i, _ => .int i
  | _, _, .str x, _ => .str x
  | _, _, .lst h hs, e => by
    simp only [D.only, Bool.and_eq_true] at e
    refine .lst ((hz _ _ h).resolve_right fun z => ?_) (RpA.lose hz hs e.2)
    have := z.l _ rfl
    rw [e.1] at this
    cases this
  | _, _, .tup h hs, e => by
    simp only [D.only] at e
    refine .tup ⟨?_, h.2.imp id fun h2 => (hz _ _ h2).resolve_right fun z => z.nt _ rfl⟩ (RpA.lose hz hs e)
    rcases h.1 with h | h
    · exact .inl (rd_cut hz h fun z => z.nt _ rfl)
    · exact .inr h
  | _, _, .obj h hl hs, e => by
    simp only [D.only, Bool.and_eq_true] at e
    exact .obj ((hz _ _ h).resolve_right fun z => z.i _ _ _ rfl _ (by simpa using e.1) rfl) hl (RpA.lose hz hs e.2)
  | _, _, .ref a, _ => .ref a
  | _, _, .ty n, _ => .ty n
  | _, _, .scr h, e => by
    simp only [D.only] at e
    refine .scr ?_
    rcases h with h | h
    · exact .inl (rd_cut hz h fun z => by
        have := z.l _ rfl
        rw [e] at this
        cases this)
    · exact .inr h
  | _, _, .dK h hl hs, e => by
    simp only [D.only] at e
    exact .dK ((hz _ _ h).resolve_right fun z => z.nf _ _ rfl) hl (RpA.lose hz hs e)
  | _, _, .dT h hl hs, e => by
    simp only [D.only] at e
    exact .dT ((hz _ _ h).resolve_right fun z => z.nf _ _ rfl) hl (RpA.lose hz hs e)
  | _, _, .exc h h2 hl hs, e => by
    simp only [D.only] at e
    exact .exc ((hz _ _ h).resolve_right fun z => z.ne _ rfl) ((hz _ _ h2).resolve_right fun z => z.ne _ rfl) hl (RpA.lose hz hs e)
  | _, _, .cau h hl hs, e => by
    simp only [D.only] at e
    exact .cau ((hz _ _ h).resolve_right fun z => z.nx _ rfl) hl (RpA.lose hz hs e)
  | _, _, .lsr h hs, e => by
    simp only [D.only, Bool.and_eq_true] at e
    refine .lsr ((hz _ _ h).resolve_right fun z => ?_) (RpA.lose hz hs e.2)
    have := z.l _ rfl
    rw [e.1] at this
    cases this
  | _, _, .idn h, e => by
    simp only [D.only] at e
    exact .idn (Rp.lose hz h e)
theorem RpA.lose (hz : ∀ a o, H a = some o → H' a = some o ∨ Lent S b cs o) : ∀ {vs : List V} {ds : List D}, RpA S H vs ds → D.onlyA b cs ds = true → RpA S H' vs ds
  | _, _, .nil, _ => .nil
  | _, _, .cons h t, e => by
    simp only [D.onlyA, Bool.and_eq_true] at e
    exact .cons (Rp.lose hz h e.1) (RpA.lose hz t e.2)
end
def M.only (b : Bool) (cs : List Nat) : M → Bool
  | .lst ds => D.onlyA b cs ds
  | .ins _ fs => D.onlyA b cs (fs.map (·.2))
  | .dK kvs => D.onlyA b cs (kvs.map (·.2))
  | .dT kvs => D.onlyA b cs (kvs.map (·.2))
  | .fzK _ _ kvs => D.onlyA b cs (kvs.map (·.2))
  | .fzT _ _ kvs => D.onlyA b cs (kvs.map (·.2))
theorem RpF.lose (hz : ∀ a o, H a = some o → H' a = some o ∨ Lent S b cs o) : ∀ {vs : List (Str × V)} {ds : List (Str × D)}, RpF S H vs ds → D.onlyA b cs (ds.map (·.2)) = true → RpF S H' vs ds
  | _, _, .nil, _ => .nil
  | _, _, .cons h t, e => by
    simp only [List.map_cons, D.onlyA, Bool.and_eq_true] at e
    exact .cons (Rp.lose hz h e.1) (RpF.lose hz t e.2)
theorem RpK.lose {κ : Type} (hz : ∀ a o, H a = some o → H' a = some o ∨ Lent S b cs o) : ∀ {vs : List (κ × V)} {ds : List (κ × D)}, RpK S H vs ds → D.onlyA b cs (ds.map (·.2)) = true → RpK S H' vs ds
  | _, _, .nil, _ => .nil
  | _, _, .cons h t, e => by
    simp only [List.map_cons, D.onlyA, Bool.and_eq_true] at e
    exact .cons (Rp.lose hz h e.1) (RpK.lose hz t e.2)
theorem RpM.lose {m : M} {o : HO} (hz : ∀ a o, H a = some o → H' a = some o ∨ Lent S b cs o) (h : RpM S H m o) (e : M.only b cs m = true) : RpM S H' m o := by
  cases h with
  | lst h => exact .lst (h.lose hz e)
  | ins h => exact .ins (h.lose hz e)
  | dK h => exact .dK (h.lose hz e)
  | dT h => exact .dT (h.lose hz e)
  | fzK h => exact .fzK (h.lose hz e)
  | fzT h => exact .fzT (h.lose hz e)
end
inductive LendM (S : Sg0) (b : Bool) (cs : List Nat) : M → D → Prop
  | lst {ds : List D} : b = false → LendM S b cs (.lst ds) (.lst ds)
  | ins {c : Nat} {l : List D} : (S.nms c).length = l.length → (∀ c' ∈ cs, S.cls c' ≠ S.cls c) → LendM S b cs (.ins (S.cls c) ((S.nms c).zip l)) (.obj c l)
inductive Lend (S : Sg0) (b : Bool) (cs : List Nat) : Mem → List (Addr × D) → Prop
  | nil : Lend S b cs [] []
  | cons {z : Addr} {m : M} {d : D} {μ : Mem} {l : List (Addr × D)} : LendM S b cs m d → Lend S b cs μ l → Lend S b cs ((z, m) :: μ) ((z, d) :: l)
inductive Bor (S : Sg0) (l : List (Addr × D)) : Gm → Gm → Prop
  | nil : Bor S l [] []
  | same {g : Option D} {Γ Γ' : Gm} : Bor S l Γ Γ' → Bor S l (g :: Γ) (g :: Γ')
  | bor {z : Addr} {o : D} {Γ Γ' : Gm} : (z, o) ∈ l → Bor S l Γ Γ' → Bor S l (some (.ref z) :: Γ) (some o :: Γ')
  | sem {d o : D} {Γ Γ' : Gm} : (∀ (W : Hp) (v : V), (∀ z o, (z, o) ∈ l → Rp S W (.ref z) o) → Rp S W v d → Rp S W v o) → Bor S l Γ Γ' → Bor S l (some d :: Γ) (some o :: Γ')
theorem Lend.adr {S : Sg0} {b : Bool} {cs : List Nat} : ∀ {μ : Mem} {l : List (Addr × D)}, Lend S b cs μ l → ∀ z o, (z, o) ∈ l → ∃ m, (z, m) ∈ μ ∧ LendM S b cs m o
  | _, _, .nil, _, _, h => by cases h
  | _, _, .cons h t, z, o, hm => by
    rcases List.mem_cons.mp hm with e | hm
    · cases e
      exact ⟨_, .head _, h⟩
    · obtain ⟨m, h1, h2⟩ := t.adr z o hm
      exact ⟨m, .tail _ h1, h2⟩
theorem Lend.m {S : Sg0} {b : Bool} {cs : List Nat} : ∀ {μ : Mem} {l : List (Addr × D)}, Lend S b cs μ l → ∀ q ∈ μ, ∃ o, LendM S b cs q.2 o
  | _, _, .nil, _, h => by cases h
  | _, _, .cons h t, q, hm => by
    rcases List.mem_cons.mp hm with rfl | hm
    · exact ⟨_, h⟩
    · exact t.m q hm
theorem LendM.lent {S : Sg0} {H : Hp} {b : Bool} {cs : List Nat} {m : M} {d : D} {o : HO} (h : LendM S b cs m d) (r : RpM S H m o) : Lent S b cs o := by
  cases h with
  | lst hb =>
    cases r
    exact ⟨fun _ _ => hb, fun _ _ _ e => (by cases e), fun _ e => (by cases e), fun _ _ e => (by cases e), fun _ e => (by cases e), fun _ e => (by cases e)⟩
  | ins hl hc =>
    cases r
    exact ⟨fun _ e => (by cases e), fun _ _ _ e => (by cases e; exact hc), fun _ e => (by cases e), fun _ _ e => (by cases e), fun _ e => (by cases e), fun _ e => (by cases e)⟩
theorem LendM.rp {S : Sg0} {H W : Hp} {b : Bool} {cs : List Nat} {m : M} {d : D} {o : HO} {z : Addr} (h : LendM S b cs m d) (r : RpM S H m o) (e : Ex H W) (hz : W z = some o) : Rp S W (.ref z) d := by
  cases h with
  | lst hb =>
    cases r with
    | lst r => exact .lst hz (r.ext e)
  | ins hl hc =>
    cases r with
    | ins r =>
      obtain ⟨ws, e1, e2, e3⟩ := r.zip hl
      subst e1
      exact .obj hz e2 (e3.ext e)
section
variable {S : Sg0} {F N H H' : Hp} {μ a d0 bz bh μ' : Mem} {bb : Bool} {cs : List Nat} {lz : List (Addr × D)}
theorem Split.sub {μ a b : Mem} (s : Split μ a b) : List.Sublist a μ ∧ List.Sublist b μ := by
  induction s with
  | nil => exact ⟨.slnil, .slnil⟩
  | l _ ih => exact ⟨ih.1.cons_cons _, ih.2.cons _⟩
  | r _ ih => exact ⟨ih.1.cons _, ih.2.cons_cons _⟩
theorem RelM0.back (r : RelM0 S F N H μ) (s : Split μ a d0) (s2 : Split d0 bz bh) (L : Lend S bb cs bz lz) {ν : Mem} (hν : ∀ q, q ∈ ν ↔ q ∈ a ∨ q ∈ bh) (hs : List.Sublist ν μ) (sν : Split ν a bh)
    (r' : RelM0 S (vis N H (adr ν)) (hidP N H bh) H' μ') (ho : ∀ q ∈ μ', M.only bb cs q.2 = true) :
    RelM0 S F N H' (μ' ++ d0) ∧ (∀ {v d}, Rp S (vis (hidP N H bh) H' (adr μ')) v d → D.only bb cs d = true → Rp S (vis N H' (adr (μ' ++ d0))) v d) ∧
      (∀ {v d}, RpA S (vis (hidP N H bh) H' (adr μ')) v d → D.onlyA bb cs d = true → RpA S (vis N H' (adr (μ' ++ d0))) v d) ∧ ∀ z, (hidP N H bh) z = none → z ∉ adr μ' → z ∈ adr (μ' ++ d0) → ∃ o, H' z = some o ∧ Lent S bb cs o := by
  have rν := r.drop hs
  obtain ⟨j1, j2⟩ := rν.join sν r'
  obtain ⟨n1, n2, n3⟩ := s.nd r.nd
  obtain ⟨m1, m2, m3⟩ := s2.nd n2
  -- the lent cells
  have hz : ∀ q ∈ bz, ∃ o, H q.1 = some o ∧ RpM S (vis N H (adr μ)) q.2 o ∧ vis N H (adr ν) q.1 = some o := fun q hq => by
    have hq0 : q ∈ d0 := (s2.mem q).mpr (.inl hq)
    have hqm : q ∈ μ := (s.mem q).mpr (.inr hq0)
    obtain ⟨o, e, m⟩ := r.mem q hqm
    refine ⟨o, e, m, vis_mk e (r.dis _ (List.mem_map_of_mem hqm)) fun z => ?_⟩
    obtain ⟨q', h1, h2⟩ := List.mem_map.mp z
    rcases (hν q').mp h1 with h | h
    · exact n3 q'.1 (List.mem_map_of_mem h) (h2 ▸ List.mem_map_of_mem hq0)
    · exact m3 q.1 (List.mem_map_of_mem hq) (h2 ▸ List.mem_map_of_mem h)
  have hzv : ∀ q ∈ bz, ∃ o, H' q.1 = some o ∧ RpM S (vis N H (adr μ)) q.2 o ∧ vis N H' (adr (μ' ++ bh)) q.1 = some o ∧ Lent S bb cs o := fun q hq => by
    obtain ⟨o, e, m, hv⟩ := hz q hq
    obtain ⟨x, lx⟩ := L.m q hq
    have := (rν.ext.trans (Ex.refl _))
    have e1 : vis N H' (adr (μ' ++ bh)) q.1 = some o := by rw [j2]; exact r'.ext _ _ hv
    exact ⟨o, vis_le _ _ e1, m, e1, lx.lent m⟩
  have had : ∀ c, c ∈ adr (μ' ++ d0) ↔ c ∈ adr (μ' ++ bh) ∨ c ∈ adr bz := fun c => by
    have := s2.adr c
    simp only [adr, List.map_append, List.mem_append] at this ⊢
    rw [this, or_assoc, or_comm (a := c ∈ List.map _ bz)]
  have key : ∀ c ∈ adr bz, c ∉ adr (μ' ++ bh) := fun c hc h => by
    obtain ⟨q, hq, rfl⟩ := List.mem_map.mp hc
    obtain ⟨o, e, m, hv, _⟩ := hzv q hq
    exact (vis_in hv).2.1 h
  have hle : ∀ x o, vis N H' (adr (μ' ++ bh)) x = some o → vis N H' (adr (μ' ++ d0)) x = some o ∨ Lent S bb cs o := fun x o e => by
    obtain ⟨h1, h2, h3⟩ := vis_in e
    by_cases hx : x ∈ adr bz
    · obtain ⟨q, hq, rfl⟩ := List.mem_map.mp hx
      obtain ⟨o', e', _, hv, l⟩ := hzv q hq
      rw [h3] at e'
      cases e'
      exact .inr l
    · exact .inl (vis_mk h3 h1 fun z => ((had x).mp z).elim h2 hx)
  have up : Ex (vis N H (adr μ)) (vis N H' (adr (μ' ++ d0))) := fun x o e => by
    obtain ⟨h1, h2, h3⟩ := vis_in e
    have e0 : vis N H (adr ν) x = some o := vis_mk h3 h1 fun z => h2 ((hs.map _).subset z)
    have e1 : vis N H' (adr (μ' ++ bh)) x = some o := by rw [j2]; exact r'.ext _ _ e0
    obtain ⟨k1, k2, k3⟩ := vis_in e1
    refine vis_mk k3 k1 fun z => ((had x).mp z).elim k2 fun hz => h2 ((s.adr x).mpr (.inr ((s2.adr x).mpr (.inl hz))))
  have cut : ∀ {v d}, Rp S (vis (hidP N H bh) H' (adr μ')) v d → D.only bb cs d = true → Rp S (vis N H' (adr (μ' ++ d0))) v d := fun h e => by
    rw [← j2] at h
    exact h.lose hle e
  have cutA : ∀ {v d}, RpA S (vis (hidP N H bh) H' (adr μ')) v d → D.onlyA bb cs d = true → RpA S (vis N H' (adr (μ' ++ d0))) v d := fun h e => by
    rw [← j2] at h
    exact h.lose hle e
  refine ⟨⟨j1.hid, fun c hc => ?_, r.ext.trans up, ?_, fun q hq => ?_, r.tup⟩, cut, cutA, fun z h1 h2 h3 => ?_⟩
  · rcases (had c).mp hc with h | h
    · exact j1.dis c h
    · exact r.dis c ((s.adr c).mpr (.inr ((s2.adr c).mpr (.inl h))))
  · show ((μ' ++ d0).map _).Nodup
    rw [List.map_append]
    refine List.nodup_append.mpr ⟨r'.nd, n2, fun x hx y hy e => ?_⟩
    subst e
    rcases (s2.adr x).mp hy with h | h
    · exact key x h (by simp only [adr, List.map_append, List.mem_append]; exact .inl hx)
    · have := (List.nodup_append.mp (show ((adr μ') ++ (adr bh)).Nodup from by rw [adr, adr, ← List.map_append]; exact j1.nd)).2.2
      exact this x hx x h rfl
  · rcases List.mem_append.mp hq with h | h
    · obtain ⟨o, e, m⟩ := r'.mem q h
      rw [← j2] at m
      exact ⟨o, e, m.lose hle (ho q h)⟩
    · rcases (s2.mem q).mp h with h | h
      · obtain ⟨o, e, m, _⟩ := hzv q h
        exact ⟨o, e, m.ext up⟩
      · obtain ⟨o, e, m⟩ := r.mem q ((s.mem q).mpr (.inr ((s2.mem q).mpr (.inr h))))
        obtain ⟨o', e1, e2⟩ := hidP_in rν sν (List.mem_map_of_mem h : q.1 ∈ adr bh)
        rw [e] at e2
        cases e2
        exact ⟨o, r'.hid _ _ e1, m.ext up⟩
  · rcases (had z).mp h3 with h | h
    · simp only [adr, List.map_append, List.mem_append] at h
      rcases h with h | h
      · exact absurd h h2
      · obtain ⟨o, e, _⟩ := hidP_in rν sν h
        rw [h1] at e
        cases e
    · obtain ⟨q, hq, rfl⟩ := List.mem_map.mp h
      obtain ⟨o, e, _, _, l⟩ := hzv q hq
      exact ⟨o, e, l⟩
end
abbrev Sg.lend (S : Sg) (bb : Bool) (cs : List Nat) (d0 : Mem) : Sg := ⟨S.toSg0, fun c fs μ' => D.onlyA bb cs fs = true ∧ (∀ q ∈ μ', M.only bb cs q.2 = true) ∧ S.qx c fs (μ' ++ d0), S.wx⟩
section
variable {X : Cx} {S : Sg} {e : Expr} {es : List Expr} {Γ Γ' : Gm} {μ a d0 bz bh : Mem} {bb : Bool} {cs : List Nat} {lz : List (Addr × D)}
end
end GL
namespace GL
open PySem L2 PySem.Spec PyProof.Rows
class Only (b : Bool) (cs : List Nat) (α : Type) [Rpd α] : Prop where
  on : ∀ x : α, D.only b cs (rp x) = true
section
variable {b : Bool} {cs : List Nat} {α β γ δ : Type}
instance : Only b cs Int := ⟨fun _ => rfl⟩
instance : Only b cs Bool := ⟨fun _ => rfl⟩
instance : Only b cs Unit := ⟨fun _ => rfl⟩
instance : Only b cs Nm := ⟨fun _ => rfl⟩
theorem onA [Rpd α] [Only b cs α] : ∀ l : List α, D.onlyA b cs (l.map rp) = true
  | [] => rfl
  | x :: l => by
    show (D.only b cs (rp x) && D.onlyA b cs (l.map rp)) = true
    rw [Only.on x, onA l]
    rfl
instance [Rpd α] [Only true cs α] : Only true cs (List α) := ⟨fun l => by
  show (true && D.onlyA true cs (l.map rp)) = true
  rw [onA l]
  rfl⟩
instance [Rpd α] [Only b cs α] : Only b cs (Tu α) := ⟨fun l => onA l.l⟩
instance [Rpd α] [Rpd β] [Only b cs α] [Only b cs β] : Only b cs (α × β) := ⟨fun x => by
  show (D.only b cs (rp x.1) && (D.only b cs (rp x.2) && true)) = true
  rw [Only.on x.1, Only.on x.2]
  rfl⟩
instance [Rpd α] [Rpd β] [Rpd γ] [Only b cs α] [Only b cs β] [Only b cs γ] : Only b cs (T3 α β γ) := ⟨fun x => by
  show (D.only b cs (rp x.a) && (D.only b cs (rp x.b) && (D.only b cs (rp x.c) && true))) = true
  rw [Only.on x.a, Only.on x.b, Only.on x.c]
  rfl⟩
instance [Rpd α] [Rpd β] [Rpd γ] [Rpd δ] [Only b cs α] [Only b cs β] [Only b cs γ] [Only b cs δ] : Only b cs (T4 α β γ δ) := ⟨fun x => by
  show (D.only b cs (rp x.a) && (D.only b cs (rp x.b) && (D.only b cs (rp x.c) && (D.only b cs (rp x.d) && true)))) = true
  rw [Only.on x.a, Only.on x.b, Only.on x.c, Only.on x.d]
  rfl⟩
instance [Rpd α] [Only b cs α] : Only b cs (Option α) := ⟨fun x => by
  cases x with
  | none => rfl
  | some y => exact Only.on y⟩
instance [Rpd α] [Rpd β] [Only b cs α] [Only b cs β] : Only b cs (α ⊕ β) := ⟨fun x => by
  cases x with
  | inl y => exact Only.on y
  | inr y => exact Only.on y⟩
end
section
variable {X : Cx} {S : Sg} {e : Expr} {es : List Expr} {Γ Γ' : Gm} {μ a d0 bz bh : Mem} {bb : Bool} {cs : List Nat} {lz : List (Addr × D)}
abbrev Sg.lend0 (S : Sg) (μ : Mem) : Sg := ⟨S.toSg0, fun c fs μ' => Plain fs ∧ μ' = [] ∧ S.qx c fs μ, S.wx⟩
abbrev Sg.lendP (S : Sg) (p : Addr) (μ : Mem) : Sg := ⟨S.toSg0, fun c fs μ' => Plain fs ∧ ∃ l', PoolOk l' ∧ μ' = [(p, .lst l')] ∧ S.qx c fs ((p, .lst l') :: μ), S.wx⟩
theorem RelM.qx {S : Sg} {q : QE} {F N H : Hp} {μ : Mem} (r : RelM S F N H μ) (h : ∀ c fs μ', q c fs μ' → S.qx c fs μ') : RelM ⟨S.toSg0, q, S.wx⟩ F N H μ :=
  ⟨r.toRelM0, fun cls d H ⟨c, dd, vs, ds, μ, h1, h2, h3, hl, h4, r', h5, h6, h7⟩ => r.iv cls d H ⟨c, dd, vs, ds, μ, h1, h2, h3, hl, h4, r', h5, h6, h c ds μ h7⟩⟩
theorem EvG.qx {q : QE} {Q : QD} (h : ∀ c fs μ', q c fs μ' → S.qx c fs μ') (k : EvG X ⟨S.toSg0, q, S.wx⟩ e Γ μ Q) : EvG X S e Γ μ Q := fun F N σ H r rs =>
  (k F N σ H (r.qx h) rs).mono fun _ _ ⟨d, μ', r', rd, z⟩ => ⟨d, μ', ⟨r'.toRelM0, r.iv⟩, rd, z⟩
theorem EvT.qx {q : QE} {Q : Bool → Mem → Prop} (h : ∀ c fs μ', q c fs μ' → S.qx c fs μ') (k : EvT X ⟨S.toSg0, q, S.wx⟩ e Γ μ Q) : EvT X S e Γ μ Q := fun F N σ H r rs =>
  (k F N σ H (r.qx h) rs).mono fun _ _ ⟨μ', r', z⟩ => ⟨μ', ⟨r'.toRelM0, r.iv⟩, z⟩
theorem EvT.mono {Q Q' : Bool → Mem → Prop} (h : EvT X S e Γ μ Q) (m : ∀ d μ', Q d μ' → Q' d μ') : EvT X S e Γ μ Q' := fun F N σ H r rs =>
  (h F N σ H r rs).mono fun _ _ ⟨μ', r', q⟩ => ⟨μ', r', m _ μ' q⟩
end
theorem Del.perm {a : Addr} {m : M} {μ μr : Mem} (u : Del a m μ μr) : (∀ q, q ∈ (a, m) :: μr ↔ q ∈ μ) ∧ ((adr μ).Nodup → (adr ((a, m) :: μr)).Nodup) := by
  induction u with
  | here => exact ⟨fun q => Iff.rfl, fun h => h⟩
  | @there p r r' u ih =>
    refine ⟨fun q => ?_, fun h => ?_⟩
    · have := ih.1 q
      simp only [List.mem_cons] at this ⊢
      rw [← this, ← or_assoc, ← or_assoc, or_comm (a := q = (a, m))]
    · obtain ⟨h1, h2⟩ := List.nodup_cons.mp h
      have i2 := ih.2 h2
      obtain ⟨k1, k2⟩ := List.nodup_cons.mp i2
      have hm : ∀ c, c ∈ adr ((a, m) :: r') ↔ c ∈ adr r := fun c => by
        simp only [adr, List.mem_map]
        exact ⟨fun ⟨q, h1, h2⟩ => ⟨q, (ih.1 q).mp h1, h2⟩, fun ⟨q, h1, h2⟩ => ⟨q, (ih.1 q).mpr h1, h2⟩⟩
      refine List.nodup_cons.mpr ⟨fun z => ?_, List.nodup_cons.mpr ⟨fun z => h1 ((hm _).mp (List.mem_cons_of_mem _ z)), k2⟩⟩
      rcases List.mem_cons.mp z with e | z
      · exact h1 ((hm _).mp (by rw [← e]; exact List.mem_cons_self))
      · exact k1 z
section
variable {A W : Type} {args : A → List D} {flds : W → List (Str × D)} {C : Addr}
end
section
variable {X : Cx} {S : Sg} {CX : CXT} {k : Nat} {f C : Addr} {fd : FuncData} {ps : List Str} {sg : SpG} {Γ : Gm} {μ : Mem} {Q : QD} {e : Expr} {es : List Expr} {x : Str} {pos p : Pos} {E : EG} {sts : List Stmt} {dvs : List V} {dds : List D}
end
section
variable {X : Cx} {S : Sg} {tg : Expr} {body sts : List Stmt} {E : EG}
def ForU (X : Cx) (S : Sg) (tg : Expr) (body sts : List Stmt) (E : EG) : List D → Gm → Mem → Prop
  | [], Γ, μ => BlG X S sts Γ μ E
  | d :: ds, Γ, μ => TgG X S (List.range 64) tg d Γ μ fun Γ2 μ2 => BlG X S body Γ2 μ2 { nx := ForU X S tg body sts E ds, ct := ForU X S tg body sts E ds, bk := fun Γ' μ' => BlG X S sts Γ' μ' E, rt := E.rt }
theorem forU {Γ : Gm} {μ : Mem} {ds : List D} (h : ForU X S tg body sts E ds Γ μ) : RFor X S tg body sts Γ E (fun _ => True) ds μ := by
  refine ⟨fun i Γ' μ' => ForU X S tg body sts E (ds.drop i) Γ' μ', by simpa using h, fun _ _ _ _ => trivial, fun i d Γ' μ' hd hI => ?_, fun Γ' μ' hI => ?_⟩
  · obtain ⟨hlt, e⟩ := List.getElem?_eq_some_iff.mp hd
    replace hI : ForU X S tg body sts E (List.drop i ds) Γ' μ' := hI
    rw [List.drop_eq_getElem_cons hlt, e] at hI
    exact hI
  · replace hI : ForU X S tg body sts E (List.drop ds.length ds) Γ' μ' := hI
    rw [List.drop_length] at hI
    exact hI
end
theorem bl_norm {X : Cx} {S : Sg} {sts : List Stmt} {Γ : Gm} {μ : Mem} {E : EG} (Γ' : Gm) (μ' : Mem) (h : BlG X S sts Γ' μ' E) (e : Γ = Γ' := by rfl) (e2 : μ = μ' := by rfl) : BlG X S sts Γ μ E := by
  subst e e2
  exact h
section
variable {X : Cx} {S : Sg} {tg : Expr} {body sts : List Stmt} {E : EG}
theorem forU_c {d : D} {ds : List D} {Γ : Gm} {μ : Mem} (h : TgG X S (List.range 64) tg d Γ μ fun Γ2 μ2 => BlG X S body Γ2 μ2 { nx := ForU X S tg body sts E ds, ct := ForU X S tg body sts E ds, bk := fun Γ' μ' => BlG X S sts Γ' μ' E, rt := E.rt }) : ForU X S tg body sts E (d :: ds) Γ μ := h
theorem bl_id {Γ : Gm} {μ : Mem} (h : BlG X S sts Γ μ E) : BlG X S sts Γ μ E := h
end
end GL
namespace GL
open PySem L2 PySem.Spec PyProof.Rows
class Apart (α β : Type) [Rpd α] [Rpd β] : Prop where
  ap : ∀ (x : α) (y : β), D.eqv (rp x) (rp y) = false ∧ D.eqv (rp y) (rp x) = false
section
variable {α β γ δ : Type}
instance [Rpd α] [Rpd β] : Apart (Tu α) (List β) := ⟨fun x y => by
  show D.eqv (.tup _) (.lst _) = false ∧ D.eqv (.lst _) (.tup _) = false
  simp [D.eqv, D.py, PyData.eqv]⟩
instance [Rpd α] [Rpd β] [Rpd γ] : Apart (α × β) (List γ) := ⟨fun x y => by
  show D.eqv (.tup _) (.lst _) = false ∧ D.eqv (.lst _) (.tup _) = false
  simp [D.eqv, D.py, PyData.eqv]⟩
instance [Rpd α] [Rpd β] [Rpd γ] [Rpd δ] : Apart (T3 α β γ) (List δ) := ⟨fun x y => by
  show D.eqv (.tup _) (.lst _) = false ∧ D.eqv (.lst _) (.tup _) = false
  simp [D.eqv, D.py, PyData.eqv]⟩
theorem eqv_tupL : ∀ {l k : List D}, l.length ≠ k.length → D.eqv (.tup l) (.tup k) = false
  | [], [], h => absurd rfl h
  | [], _ :: _, _ => by simp [D.eqv, D.py, D.pyA, PyData.eqv, PyData.eqvAll]
  | _ :: _, [], _ => by simp [D.eqv, D.py, D.pyA, PyData.eqv, PyData.eqvAll]
  | x :: l, y :: k, h => by
    rw [eqv_tup0, eqv_tupL (fun e => h (by simp [e])), Bool.and_false]
instance {α' β' : Type} [Rpd α] [Rpd β] [Rpd α'] [Rpd β'] [Rpd γ] : Apart (α × β) (T3 α' β' γ) := ⟨fun x y => ⟨eqv_tupL (fun h => nomatch h), eqv_tupL (fun h => nomatch h)⟩⟩
variable [DecidableEq α] [DecidableEq β]
instance [Dt α] [Dt β] [Apart α β] : Dt (α ⊕ β) where
  dep := max (Dt.dep α) (Dt.dep β)
  dok x := by
    cases x with
    | inl x => exact D.ok_up (Dt.dok x) (Nat.le_max_left _ _)
    | inr x => exact D.ok_up (Dt.dok x) (Nat.le_max_right _ _)
  deq x y := by
    cases x with
    | inl x => cases y with
      | inl y => exact (Dt.deq x y).trans (decide_eq_decide.mpr (by simp))
      | inr y => exact (Apart.ap x y).1.trans (by simp)
    | inr x => cases y with
      | inl y => exact (Apart.ap y x).2.trans (by simp)
      | inr y => exact (Dt.deq x y).trans (decide_eq_decide.mpr (by simp))
instance [Dt α] [Dt β] [Apart α β] [Nn α] [Nn β] : Nn (α ⊕ β) := ⟨fun x => by
  cases x with
  | inl x => exact Nn.nn x
  | inr x => exact Nn.nn x⟩
end
section
variable {X : Cx} {S : Sg} {tg : Expr} {μ : Mem} {R : RI}
theorem iv_lstK (hK : X.K = S.K) {l : List D} {Km : Mem → Prop} (k : R Km l μ) : IterV X S tg (.lst l) μ R := by
  intro F N H x r rx Rr kk
  cases rx with
  | @lst a xs _ h hs =>
  have h' : SqL S.K (vis N H (adr μ)) a xs := SqL.of h
  refine iv_sql (xs := xs) (by rw [hK]; exact vis_le.l h') ?_
  rw [hK]
  exact kk _ H l Km μ r.top ((itok_l h' hs).weak fun _ _ => trivial) k
theorem it_d {α : Type} [Rpd α] (xs : List α) {d : D} (h : Drf μ d (xs.map rp)) (k : R (fun μ' => Drf μ' d (xs.map rp)) (xs.map rp) μ) (hK : X.K = S.K := by rfl) : IterV X S tg d μ R := by
  cases h with
  | val => exact iv_lstK hK k
  | ref hm =>
    intro F N H x r rx Rr kk
    cases rx
    obtain ⟨o, e, rm⟩ := r.find hm
    cases rm with
    | @lst _ zs hs =>
    refine iv_sql (xs := zs) (SqL.of e) ?_
    rw [hK]
    refine kk _ H _ _ μ r.top (itok_m.weak fun μ' h => ?_) k
    cases h with
    | ref h => exact h
end
theorem Split.left : ∀ A B : Mem, Split (A ++ B) A B
  | [], B => Split.none B
  | _ :: A, B => .l (Split.left A B)
theorem Split.right : ∀ A B : Mem, Split (A ++ B) B A
  | [], B => Split.all B
  | _ :: A, B => .r (Split.right A B)
theorem Split.blk {μ a b : Mem} (s : Split μ a b) : ∀ A : Mem, Split (A ++ μ) (A ++ a) b
  | [] => s
  | _ :: A => .l (s.blk A)
theorem Split.skip {μ a b : Mem} (s : Split μ a b) : ∀ A : Mem, Split (A ++ μ) a (A ++ b)
  | [] => s
  | _ :: A => .r (s.skip A)
theorem bl_permR {X : Cx} {S : Sg} {sts : List Stmt} {Γ : Gm} {μ μ' : Mem} {E : EG} (u : List.Perm μ μ') (h : BlG X S sts Γ μ' E) : BlG X S sts Γ μ E := fun F N σ H r rs => by
  obtain ⟨r', e⟩ := r.toRelM0.perm (fun q => u.mem_iff.symm) ((u.map _).nodup_iff.mp r.nd)
  exact h F N σ H ⟨r', r.iv⟩ (by rw [e]; exact rs)
theorem Split.perm {μ a b : Mem} (s : Split μ a b) : List.Perm μ (a ++ b) := by
  induction s with
  | nil => exact .refl _
  | l _ ih => exact .cons _ ih
  | r _ ih => exact (List.Perm.cons _ ih).trans List.perm_middle.symm
theorem ev_permQ {X : Cx} {S : Sg} {e : Expr} {Γ : Gm} {μ : Mem} {Q : QD} (h : EvG X S e Γ μ fun d μ' => ∃ μ'', List.Perm μ' μ'' ∧ Q d μ'') : EvG X S e Γ μ Q := fun F N σ H r rs =>
  (h F N σ H r rs).mono fun v H' ⟨d, μ', r', rd, μ'', p, q⟩ => by
    obtain ⟨r2, e⟩ := r'.toRelM0.perm (ν := μ'') (fun q => p.mem_iff.symm) ((p.map _).nodup_iff.mp r'.nd)
    exact ⟨d, μ'', ⟨r2, r'.iv⟩, by rw [e]; exact rd, q⟩
end GL
namespace GL
open PySem L2 PySem.Spec PyProof.Rows
section
variable {a : Addr} {m m' : M} {μ μ' : Mem}
theorem Upd.blk (u : Upd a m m' μ μ') : ∀ B : Mem, Upd a m m' (B ++ μ) (B ++ μ')
  | [] => u
  | _ :: B => .there (u.blk B)
theorem Del.blk (u : Del a m μ μ') : ∀ B : Mem, Del a m (B ++ μ) (B ++ μ')
  | [] => u
  | _ :: B => .there (u.blk B)
end
section
variable {A Z ρ Y : Type} {args : A → Z → List D} {mem : A → Z → Mem → Prop} {post : A → Z → ρ → D → Mem → Prop} {posx : A → Z → Y → Mem → Prop} {m : A → (ρ → Prop) → (Y → KX) → Prop} {k : ρ → Prop} {kx : Y → KX} {S : Sg} {C : Addr} {ds : List D} {μ a1 b1 : Mem} {Q : QD}
end
end GL
namespace GL
open PySem L2 PySem.Spec PyProof.Rows
theorem OkS.app {x y : Str} (h : OkS x) (k : OkS y) : OkS (x ++ y) := by
  refine OkS_of fun c hc => ?_
  have e1 : ∀ z : Str, OkS z → ∀ c ∈ cs z, c < 1114112 := fun z hz c hc => by
    have hz : z.cps.all (· < 0x110000) = true := hz
    rw [← Array.all_toList] at hz
    exact of_decide_eq_true (List.all_eq_true.mp hz c hc)
  rw [cs_app] at hc
  rcases List.mem_append.mp hc with hc | hc
  · exact e1 x h c hc
  · exact e1 y k c hc
def nmE : Nm := ⟨"", by decide +kernel⟩
def nmApp (a b : Nm) : Nm := if h : a.1.length + b.1.length ≤ 1000 then ⟨a.1 ++ b.1, a.2.1.app b.2.1, by rw [str_app_len]; exact h⟩ else nmE
theorem int_txt : ∀ n : Fin 100, OkS (toString ((n.val : Nat) : Int)) ∧ (toString ((n.val : Nat) : Int) : Str).length ≤ 1000 := by decide +kernel
def nmInt (i : Int) : Nm := if h : 0 ≤ i ∧ i < 100 then ⟨toString i, by
  have := int_txt ⟨i.toNat, by omega⟩
  rw [show ((i.toNat : Nat) : Int) = i by omega] at this
  exact this⟩ else nmE
section
variable {X : Cx} {S : Sg} {μ : Mem} {Q : QD}
theorem op_addNm (a b : Nm) (h : a.1.length + b.1.length ≤ 1000) (k : Q (rp (nmApp a b)) μ) : OpG X S (binaryOp .Add) (rp a) (rp b) μ Q := by
  refine og_addS (by omega) ?_
  have e : rp (nmApp a b) = .str (a.1 ++ b.1) := by
    unfold nmApp
    rw [dif_pos h]
    rfl
  rw [← e]
  exact k
def intsOf : List Expr → Option (List Int)
  | [] => some []
  | .Constant (.int i) _ _ :: es => (intsOf es).map (i :: ·)
  | _ => none
theorem ea_ints {Γ : Gm} : ∀ {es : List Expr} {ns : List Int} {R : List D → Mem → Prop}, intsOf es = some ns → R (ns.map D.int) μ → EvA X S es Γ μ R
  | [], ns, R, h, k => by
    cases h
    exact ea_nil k
  | .Constant (.int i) j p :: es, ns, R, h, k => by
    unfold intsOf at h
    obtain ⟨ms, h1, h2⟩ := Option.map_eq_some_iff.mp h
    subst h2
    exact ea_cons (ev_int (ea_ints h1 k)) (star_cs rfl)
theorem ev_lstI {Γ : Gm} {es : List Expr} {pos : Pos} (ns : List Int) (k : Q (rp ns) μ) (h : intsOf es = some ns := by rfl) (hn : Nat.ble ns.length 1000 = true := by rfl) : EvG X S (.List es pos) Γ μ Q :=
  ev_lst (ea_ints h ⟨by rw [List.length_map]; have := Nat.le_of_ble_eq_true hn; omega, k⟩)
end
end GL
namespace GL
open PySem
section held
variable {prog : Program} {w : World} {A : Around} {s : Shared} {z TI TO T i1 i2 l1 l2 : Addr} {f : Bool} {oT : Obj} {j1 j2 : Nat} {xs ys : Array Value}
structure ZT (h : Heap) (i1 i2 TI l1 l2 : Addr) (j1 j2 : Nat) (xs ys : Array Value) : Prop where
  ti : IsPair h TI (.ref i1) (.ref i2)
  a : h.IsTupleIter i1 l1 j1
  b : h.IsTupleIter i2 l2 j2
  p : h.IsTuple l1 xs
  q : h.IsTuple l2 ys
variable {E : Value → Shared → Prop}
theorem ZT.still {h h' : Heap} (Z : ZT h i1 i2 TI l1 l2 j1 j2 xs ys) (D : ZipApart z TI TO i1 i2 l1 l2) (k : ∀ c o, c ≠ z → h.get? c = some o → h'.get? c = some o) : ZT h' i1 i2 TI l1 l2 j1 j2 xs ys :=
  ⟨k _ _ D.TIz Z.ti, Z.a.at fun o e => k _ o D.i1z e, Z.b.at fun o e => k _ o D.i2z e, Z.p.at fun o e => k _ o D.l1z e, Z.q.at fun o e => k _ o D.l2z e⟩
end held
end GL
namespace GL
open PySem L2 RZ PySem.Spec PyProof.Rows
section
variable {X : Cx} {S : Sg} {e1 e2 : Expr} {Γ : Gm} {μ : Mem} {p pos tpos : Pos} {elts : List Expr} {kk : Nat} {R : RI} {Q : QD}
end
section
variable {X : Cx} {S : Sg} {e e1 e2 : Expr} {Γ : Gm} {μ : Mem} {p pos tpos apos cpos : Pos} {elts : List Expr} {kk : Nat} {R : RI}
end
section
variable {X : Cx} {S : Sg} {e o e1 e2 : Expr} {Γ : Gm} {μ : Mem} {apos cpos : Pos} {Q : QD}
end
section
variable {X : Cx} {S : Sg} {e : Expr} {sts : List Stmt} {Γ : Gm} {μ : Mem} {Q : QD} {E : EG} {x : Str} {pos : Pos}
end
end GL
namespace GL
open PySem L2 PySem.Spec PyProof.Rows
theorem rpA_nm {S : Sg0} {H : Hp} : ∀ {l : List Nm} {xs : List V}, RpA S H xs (l.map rp) → xs = l.map fun x => V.str x.1
  | [], _, .nil => rfl
  | x :: l, _, .cons h t => by
    cases h
    rw [rpA_nm t]
    rfl
theorem flat_nm : ∀ l : List Nm, (l.map fun x => V.str x.1).all L2.flatV = true
  | [] => rfl
  | x :: l => by
    rw [List.map_cons, List.all_cons, flat_nm l]
    rfl
theorem inV_nm (x : Nm) : ∀ l : List Nm, L2.inV (V.str x.1) (l.map fun x => V.str x.1) = inb x l
  | [] => by simp [L2.inV, inb]
  | y :: l => by
    have ih := inV_nm x l
    unfold L2.inV inb at ih ⊢
    rw [List.map_cons, List.any_cons, ih]
    show (y.1 == x.1 || _) = _
    by_cases h : y = x
    · subst h
      simp
    · have h1 : (y.1 == x.1) = false := by
        rw [beq_eq_false_iff_ne]
        exact fun z => h (Subtype.ext z)
      rw [h1, Bool.false_or]
      refine decide_eq_decide.mpr ⟨fun z => List.mem_cons_of_mem _ z, fun z => ?_⟩
      rcases List.mem_cons.mp z with z | z
      · exact absurd z.symm h
      · exact z
section
variable {X : Cx} {S : Sg} {Γ : Gm} {μ : Mem} {Q : QD}
theorem op_inT (x : Nm) (l : Tu Nm) (k : Q (.bl (inb x l.l)) μ) (hK : X.K = S.K := by rfl) : OpG X S (compareOp .In) (rp x) (rp l) μ Q := fun F N H u v r ru rv => by
  cases ru
  cases rv with
  | tup ht hs =>
    obtain rfl := rpA_nm hs
    refine op_of L2.op_in_seq ⟨_, _, rfl, .inr (by rw [hK]; exact (vis_le).t ht.1), rfl, flat_nm _, _, μ, r, .bl _, ?_⟩
    rw [if_neg (by decide), inV_nm]
    exact k
end
theorem BlG.mono {X : Cx} {S : Sg} {sts : List Stmt} {Γ : Gm} {μ : Mem} {E E' : EG} (h : BlG X S sts Γ μ E) (h1 : ∀ Γ μ, E.nx Γ μ → E'.nx Γ μ) (h2 : ∀ d μ, E.rt d μ → E'.rt d μ) (h3 : ∀ Γ μ, E.bk Γ μ → E'.bk Γ μ) (h4 : ∀ Γ μ, E.ct Γ μ → E'.ct Γ μ) : BlG X S sts Γ μ E' := fun F N σ H r rs =>
  BXt.mono (h F N σ H r rs) (fun σ' H' ⟨Γ', μ', r', rs', q⟩ => ⟨Γ', μ', r', rs', h1 _ _ q⟩) (fun v H' ⟨d, μ', r', rd, q⟩ => ⟨d, μ', r', rd, h2 _ _ q⟩) (fun σ' H' ⟨Γ', μ', r', rs', q⟩ => ⟨Γ', μ', r', rs', h3 _ _ q⟩) (fun σ' H' ⟨Γ', μ', r', rs', q⟩ => ⟨Γ', μ', r', rs', h4 _ _ q⟩)
def whI {σ : Type} (s0 : σ) (step : σ → (σ → Prop) → Prop) : Prop := ∃ (I : σ → Prop) (m : σ → Nat), I s0 ∧ ∀ s, I s → step s fun s' => I s' ∧ m s' < m s
section
variable {X : Cx} {S : Sg} {Γ : Gm} {μ : Mem} {E : EG} {c : Expr} {body sts : List Stmt} {pos : Pos}
end
section
variable {X : Cx} {S : Sg} {CX : CXT} {k : Nat} {f : Addr} {fd : FuncData} {ps : List Str} {sg : SpG} {Γ : Gm} {μ : Mem} {Q : QD} {o e : Expr} {es : List Expr} {m : Str} {pos apos : Pos}
end
end GL
namespace GL
open PySem L2 PySem.Spec PyProof.Rows
abbrev vN (x : Nm) : V := V.str x.1
def rRem : V → List V → Hp → VK → Prop := fun x vs H Q => ∃ (l : Addr) (xs : List Nm) (y : Nm), x = .ref l ∧ vs = [vN y] ∧ H l = some (.lst (xs.map vN)) ∧ y ∈ xs ∧ Q .non (upd H l (.lst ((xs.erase y).map vN)))
def sgFr (sg : SpG) : SpG := fun ds μ Q E => ∃ a b, Split μ a b ∧ sg ds a (fun d μ' => Q d (μ' ++ b)) (fun c fs μ' => E c fs (μ' ++ b))
end GL
namespace GL
open PySem L2 PySem.Spec PyProof.Rows
section
variable {X : Cx} {S : Sg} {k kf : Nat} {f g C : Addr} {fld : Str} {fd : FuncData} {ps : List Str} {sg : SpG} {μ : Mem} {Q : QD} {d : D} {l : List D}
end
end GL
namespace GL
open PySem L2 PySem.Spec PyProof.Rows
section
variable {X : Cx} {S : Sg} {Γ : Gm} {μ : Mem} {e : Expr} {es : List Expr} {kws : List Keyword} {p kpos : Pos}
structure KXt (X : Cx) (kws : List Keyword) (σ : L2.St) (H : Hp) (Q : List V → Hp → Prop) : Prop where
  run : ∀ (pos : Pos) (pins : List (Addr × Obj)) (s : Shared), Inv X pins σ H s → wpAny (model X.prog X.w) X.A (evalAll ((backToKw pos (keywordEach kws X.env)).map (·.2))) (AP X pins σ Q) X.xe s
theorem KXt.mono {σ : L2.St} {H : Hp} {Q Q' : List V → Hp → Prop} (h : KXt X kws σ H Q) (m : ∀ v H', Q v H' → Q' v H') : KXt X kws σ H Q' := ⟨fun pos pins s I =>
  thn (h.run pos pins s I) fun _ _ ⟨v, H', I', r, q⟩ => ⟨v, H', I', r, m v H' q⟩⟩
def EvK (X : Cx) (S : Sg) (kws : List Keyword) (Γ : Gm) (μ : Mem) (Q : List D → Mem → Prop) : Prop := ∀ F N σ H, RelM S F N H μ → RelS S (vis N H (adr μ)) σ Γ → KXt X kws σ H (EndA S F N Q)
end
section
variable {X : Cx} {S : Sg} {CX : CXT} {k n : Nat} {f C : Addr} {fd : FuncData} {ps ks : List Str} {sg : SpG} {Γ : Gm} {μ : Mem} {Q : QD} {e : Expr} {es : List Expr} {kws : List Keyword} {x : Str} {pos p : Pos} {g : List Value → List Value → List Value} {gV : List V → List V → List V}
end
theorem RpF.frz {S : Sg0} {Hv : Hp} {n : Str} {y : Addr} {l : List D} (hy : Rp S Hv (.ref y) (.lst l)) : ∀ {f1 f2 : List (Str × D)} {vs : List (Str × V)}, RpF S Hv vs (f1 ++ (n, .ref y) :: f2) → RpF S Hv vs (f1 ++ (n, .lst l) :: f2)
  | [], _, _, h => by
    cases h with
    | cons r t =>
      cases r
      exact .cons hy t
  | _ :: f1, f2, _, h => by
    cases h with
    | cons r t => exact .cons r (RpF.frz (f1 := f1) (f2 := f2) hy t)
end GL
namespace L2
open PySem PySem.Spec PyProof.Rows
def IteT (K : PySem.W.Frag) (a : Addr) : It :=
  ⟨fun i H => ∃ (xs : List V) (x : V), SqT K H a xs ∧ xs[i]? = some x, fun i H v H' => ∃ T x, v = .ref T ∧ H T = none ∧ H' = upd H T (.tup [.int (i : Nat), x]) ∧ ∀ xs, SqT K H a xs → xs[i]? = some x, fun i H => ∃ xs : List V, SqT K H a xs ∧ xs.length ≤ i⟩
set_option maxHeartbeats 1000000 in
def iEnumT (K : PySem.W.Frag) (ta : TA) : TI := fun σ H R => ta σ H fun vs H1 => ∃ a xs, vs = [.ref a] ∧ ((SqL K H1 a xs ∧ R (Ite K a) H1) ∨ (SqT K H1 a xs ∧ R (IteT K a) H1))
end L2
namespace GL
open PySem L2 PySem.Spec PyProof.Rows
def enumD (l : List D) : List D := l.mapIdx fun i d => .tup [.int i, d]
def enumF {α : Type} (l : List α) : List (Int × α) := l.mapIdx fun i x => ((i : Int), x)
section
variable {X : Cx} {S : Sg} {e : Expr} {Γ : Gm} {μ : Mem} {p pos tpos : Pos} {elts : List Expr} {kk : Nat} {R : RI} {α : Type} [Rpd α]
end
section
variable {X : Cx} {S : Sg} {a b c : Expr} {Γ : Gm} {μ : Mem} {p1 p2 pos : Pos} {kk : Nat} {Q : QD} {α : Type} [Rpd α]
end
end GL
namespace GL
open PySem L2 PySem.Spec PyProof.Rows
section
variable {X : Cx} {S : Sg} {o : Expr} {Γ : Gm} {μ : Mem} {Q : QD} {pos : Pos}
end
section
variable {X : Cx} {S : Sg} {tg iter elt : Expr} {ifs : List Expr} {scope : Scope} {own : List (Str × Nat)} {Γ : Gm} {μ : Mem} {pos : Pos}
end
end GL
namespace GL
open PySem L2 PySem.Spec PyProof.Rows
structure T5 (α β γ δ ε : Type) where
  a : α
  b : β
  c : γ
  d : δ
  e : ε
deriving DecidableEq
instance {α β γ δ ε : Type} [Rpd α] [Rpd β] [Rpd γ] [Rpd δ] [Rpd ε] : Rpd (T5 α β γ δ ε) := ⟨fun x => .tup [rp x.a, rp x.b, rp x.c, rp x.d, rp x.e]⟩
section
variable {X : Cx} {S : Sg} {μ : Mem} {Q : QD} {d e : D}
end
def dwF {β γ δ ε ζ η θ ι κ : Type} : ((T3 Nm β γ) ⊕ (T3 Nm δ ε) ⊕ (T5 Nm ζ η θ ι) ⊕ (Nm × κ)) → Nm
  | .inl x => x.a
  | .inr (.inl x) => x.a
  | .inr (.inr (.inl x)) => x.a
  | .inr (.inr (.inr x)) => x.1
section
variable {X : Cx} {S : Sg} {μ : Mem} {Q : QD} {β γ δ ε ζ η θ ι κ : Type} [Rpd β] [Rpd γ] [Rpd δ] [Rpd ε] [Rpd ζ] [Rpd η] [Rpd θ] [Rpd ι] [Rpd κ]
end
end GL
namespace GL
open PySem L2 PySem.Spec PyProof.Rows
end GL
namespace GL
open PySem L2 PySem.Spec PyProof.Rows TL
def ch1 (c : Nat) : Nm := if h : c < 1114112 then ⟨⟨#[c]⟩, OkS_of (by intro d hd; rw [cs_one] at hd; cases List.mem_singleton.mp hd; exact h), by show (#[c] : Array Nat).size ≤ 1000; exact Nat.le_trans (Nat.le_of_eq rfl) (show 1 ≤ 1000 by decide)⟩ else nmE
def chs (x : Nm) : List Nm := (cs x.1).map ch1
theorem cs_lt (x : Nm) : ∀ c ∈ cs x.1, c < 1114112 := fun c hc => by
  have hz : x.1.cps.all (· < 0x110000) = true := x.2.1
  rw [← Array.all_toList] at hz
  exact of_decide_eq_true (List.all_eq_true.mp hz c hc)
def nmJoin (l : List Nm) : Nm := if h : OkS (Txt.join (Str.ofString "") (l.map (·.1))) ∧ (Txt.join (Str.ofString "") (l.map (·.1))).length ≤ 1000 then ⟨_, h⟩ else nmE
section
variable {X : Cx} {S : Sg} {μ : Mem} {Q : QD}
end
end GL
namespace GL
open PySem L2 PySem.Spec PyProof.Rows
section
variable {X : L2.Cx} {pl : List (Addr × Obj)} {γ : L2.St} {M : Hp} {t : Shared} {er : Value → Shared → Prop}
def tDcT (wi : TI) (tg : TG) (tc : TT) (tk tv : TE) (vs : List Nat) : TE := fun γ M Q => wi γ M fun It M1 => ∀ d, M1 d = none → ∃ Z : Nat → Nat → Hp → Prop, (∃ n, Z 0 n (upd M1 d (.dT []))) ∧ ∀ j n M', Z j n M' →
  (It.stop j M' ∧ Q (.ref d) M') ∨ (It.go j M' ∧ ∃ Nx : Hp → Prop, (∀ M2, Nx M2 → ∃ n', n' < n ∧ Z (j + 1) n' M2) ∧ ∀ x M2, It.yld j M' x M2 → tg x (wipe γ vs) M2 fun γ2 M3 => wipe γ2 vs = wipe γ vs ∧ tc γ2 M3 fun c M4 =>
    if c = true then tk γ2 M4 fun y M5 => tv γ2 M5 fun z M6 => ∃ ps key b, y = .ref b ∧ M6 b = some (.tup (key.map kV)) ∧ M6 d = some (.dT ps) ∧ ps.length < sizeLine ∧ Nx (upd M6 d (.dT (putK ps key z))) else Nx M4)
variable {kx vx tgt src : Expr} {cs : List Expr} {sc : Scope} {own : List (Str × Nat)} {pos : Pos} {wi : TI} {tg : TG} {tc : TT} {tk tv : TE}
abbrev TurnP (X : L2.Cx) (sc : Scope) (Pr : L2.Cx → Prop) : Prop := ∀ (u : Shared) (M : Hp) (C : Addr) (cl : List (Str × Addr)) (fp : List Addr), Pr (X.blk u M sc (compEnvC sc cl C X.env) fp)
end
end GL
namespace GL
open PySem L2 PySem.Spec PyProof.Rows
abbrev Pn := Nm × Nm
structure Dp (α : Type) where
  l : List (Pn × α)
def keyP (p : Pn) : List Key := [.inr p.1.1, .inr p.2.1]
def kvPn {α : Type} [Rpd α] (l : List (Pn × α)) : List (List Key × D) := l.map fun x => (keyP x.1, rp x.2)
instance {α : Type} [Rpd α] : Rpd (Dp α) := ⟨fun x => .dT (x.l.map fun y => keyP y.1) (x.l.map fun y => rp y.2)⟩
def lkp {α : Type} (l : List (Pn × α)) (p : Pn) : Option α := (l.find? fun x => decide (x.1 = p)).map (·.2)
def putP {α : Type} (l : List (Pn × α)) (p : Pn) (v : α) : List (Pn × α) := if (l.any fun x => decide (x.1 = p)) = true then l.map (fun x => if x.1 = p then (x.1, v) else x) else l ++ [(p, v)]
section
variable {α : Type} [Rpd α]
end
inductive DrfT2 (μ : Mem) : D → List (List Key × D) → Prop
  | val {ks : List (List Key)} {ds : List D} : ks.length = ds.length → DrfT2 μ (.dT ks ds) (ks.zip ds)
  | ref {a : Addr} {kvs : List (List Key × D)} : (a, M.dT kvs) ∈ μ → DrfT2 μ (.ref a) kvs
theorem RpA.zipT2 {S : Sg0} {Hv : Hp} : ∀ {ks : List (List Key)} {vs : List V} {ds : List D}, RpA S Hv vs ds → RpK S Hv (ks.zip vs) (ks.zip ds)
  | [], _, _, _ => by simp; exact .nil
  | _ :: _, _, _, .nil => .nil
  | _ :: _, _, _, .cons r t => .cons r (RpA.zipT2 t)
theorem DrfT2.at {S : Sg0} {F N H : Hp} {μ : Mem} {d : D} {kvs : List (List Key × D)} {x : V} (h : DrfT2 μ d kvs) (r : RelM0 S F N H μ) (rx : Rp S (vis N H (adr μ)) x d) : ∃ a vs, x = .ref a ∧ Rd H a (.dT vs) ∧ RpK S (vis N H (adr μ)) vs kvs := by
  cases h with
  | val hl =>
    cases rx with
    | dT h1 h2 h3 => exact ⟨_, _, rfl, .inr ⟨_, vis_le _ _ h1⟩, h3.zipT2⟩
  | ref hm =>
    cases rx
    obtain ⟨o, e, rm⟩ := r.find hm
    cases rm with
    | dT h => exact ⟨_, _, rfl, .inl e, h⟩
section
variable {X : Cx} {S : Sg} {o i e f : Expr} {Γ : Gm} {μ : Mem} {Q : QD} {pos p1 p2 apos cpos : Pos} {α : Type} [Rpd α]
end
end GL
namespace GL
open PySem L2 PySem.Spec PyProof.Rows
def DcG (X : Cx) (S : Sg) (α : Type) [Rpd α] (tg kx vx : Expr) (ifs : List Expr) (scope : Scope) (vs : List Nat) (Γ : Gm) (Km : Mem → Prop) (ds : List D) (μ1 : Mem) (Q : QD) : Prop :=
  ∀ p, p ∉ adr μ1 → ∃ I : Nat → Mem → Prop, I 0 ((p, .dT []) :: μ1) ∧ (∀ i μ', I i μ' → Km μ') ∧
    (∀ i d μ', ds[i]? = some d → I i μ' → ∀ k : Bk,
      TgG (k.cx X scope) S vs tg d (wipeG Γ vs) μ' fun Γ2 μ2 => ∀ k : Bk, TsG (k.cx X scope) S ifs Γ2 μ2 fun b μ3 =>
          (b = true → ∀ k : Bk, EvG (k.cx X scope) S kx Γ2 μ3 fun y μ4 => ∀ k : Bk, EvG (k.cx X scope) S vx Γ2 μ4 fun z μ5 => ∃ (l : List (Pn × α)) (q : Pn) (v : α) (μ6 : Mem), y = rp q ∧ z = rp v ∧ l.length < 16777216 ∧ Upd p (.dT (kvPn l)) (.dT (kvPn (putP l q v))) μ5 μ6 ∧ I (i + 1) μ6) ∧ (b = false → I (i + 1) μ3)) ∧
    (∀ μ', I ds.length μ' → Q (.ref p) μ')
section
variable {X : Cx} {S : Sg} {α : Type} [Rpd α] {tg iter kx vx : Expr} {ifs : List Expr} {scope : Scope} {own : List (Str × Nat)} {Γ : Gm} {μ : Mem} {pos : Pos}
end
end GL
namespace GL
open PySem L2 PySem.Spec PyProof.Rows
section
variable {X : Cx} {S : Sg} {e : Expr} {Γ : Gm} {μ : Mem} {Q : QD} {α : Type} [Rpd α]
end
def dcI {τ β : Type} (xs : List τ) (step : τ → (Pn → β → Prop) → Prop) (K : List (Pn × β) → Prop) : Prop :=
  ∃ I : Nat → List (Pn × β) → Prop, I 0 [] ∧ (∀ i x l, xs[i]? = some x → I i l → l.length < 16777216 ∧ step x (fun p v => I (i + 1) (putP l p v))) ∧ ∀ l, I xs.length l → K l
section
variable {X : Cx} {S : Sg} {τ β : Type} [Rpd β] {tg kx vx : Expr} {scope : Scope} {vs : List Nat} {Γ : Gm} {μ : Mem}
def DcStep (X : Cx) (S : Sg) (β : Type) [Rpd β] (tg kx vx : Expr) (scope : Scope) (vs : List Nat) (Γ : Gm) (d : D) (μ1 : Mem) (p : Addr) (NX : Mem → Prop) : Prop :=
  ∀ k : Bk, TgG (k.cx X scope) S vs tg d (wipeG Γ vs) μ1 fun Γ2 μ2 => ∀ k : Bk, TsG (k.cx X scope) S [] Γ2 μ2 fun b μ3 =>
    (b = true → ∀ k : Bk, EvG (k.cx X scope) S kx Γ2 μ3 fun y μ4 => ∀ k : Bk, EvG (k.cx X scope) S vx Γ2 μ4 fun z μ5 => ∃ (l : List (Pn × β)) (q : Pn) (v : β) (μ6 : Mem), y = rp q ∧ z = rp v ∧ l.length < 16777216 ∧ Upd p (.dT (kvPn l)) (.dT (kvPn (putP l q v))) μ5 μ6 ∧ NX μ6) ∧ (b = false → NX μ3)
end
end GL
namespace GL
open PySem L2 PySem.Spec PyProof.Rows
section
variable {X : Cx} {S : Sg} {e : Expr} {Γ : Gm} {μ : Mem} {R : RI} {elts : List Expr} {kk : Nat} {tpos apos cpos p pos : Pos} {α : Type} [Rpd α] {tg : Expr}
end
section
variable {X : Cx} {S : Sg} {e : Expr} {Γ : Gm} {μ : Mem} {R : RI} {p p2 pos pos2 : Pos} {tg : Expr}
end
end GL
namespace GL
open PySem L2 PySem.Spec PyProof.Rows
section
variable {μ : Mem} {d : D} {α : Type} [Rpd α]
end
section
variable {X : Cx} {S : Sg} {e : Expr} {Γ : Gm} {μ : Mem} {R : RI} {p p2 pos pos2 : Pos} {tg : Expr} {α : Type} [Rpd α]
end
section
variable {X : Cx} {S : Sg} {a b : Expr} {Γ : Gm} {μ : Mem} {p1 pos : Pos} {kk : Nat} {Q : QD} {α : Type} [Rpd α]
end
end GL
namespace GL
open PySem L2 PySem.Spec PyProof.Rows
def It3 (K : PySem.W.Frag) (a b c : Addr) (n : Nat) : It :=
  ⟨fun i H => i < n ∧ ∃ xs ys zs : List V, SqT K H a xs ∧ SqT K H b ys ∧ SqT K H c zs ∧ n = min (min xs.length ys.length) zs.length,
    fun i H v H' => ∃ T x y z, v = .ref T ∧ H T = none ∧ H' = upd H T (.tup [x, y, z]) ∧ (∀ xs, SqT K H a xs → xs[i]? = some x) ∧ (∀ ys, SqT K H b ys → ys[i]? = some y) ∧ ∀ zs, SqT K H c zs → zs[i]? = some z,
    fun i H => n ≤ i ∧ ∃ xs ys zs : List V, SqT K H a xs ∧ SqT K H b ys ∧ SqT K H c zs ∧ n = min (min xs.length ys.length) zs.length⟩
def iZip3 (K : PySem.W.Frag) (ta : TA) : TI := fun σ H R => ta σ H fun vs H1 => ∃ a b c xs ys zs, vs = [.ref a, .ref b, .ref c] ∧ SqT K H1 a xs ∧ SqT K H1 b ys ∧ SqT K H1 c zs ∧ R (It3 K a b c (min (min xs.length ys.length) zs.length)) H1
def zip3 {α β γ : Type} : List α → List β → List γ → List (T3 α β γ)
  | x :: xs, y :: ys, z :: zs => ⟨x, y, z⟩ :: zip3 xs ys zs
  | _, _, _ => []
section
variable {α β γ : Type} [Rpd α] [Rpd β] [Rpd γ]
variable {X : Cx} {S : Sg} {e1 e2 e3 : Expr} {Γ : Gm} {μ : Mem} {R : RI} {p pos tpos : Pos} {elts : List Expr} {kk : Nat}
end
end GL
namespace GL
open PySem L2 PySem.Spec PyProof.Rows
section
variable {X : L2.Cx} {kx vx tgt src : Expr} {cs : List Expr} {sc : Scope} {own : List (Str × Nat)} {pos : Pos} {wi : TI} {tg : TG} {tc : TT} {tk tv : TE}
end
section
variable {X : Cx} {S : Sg} {α : Type} [Rpd α] {tg iter kx vx : Expr} {ifs : List Expr} {scope : Scope} {own : List (Str × Nat)} {Γ : Gm} {μ : Mem} {pos : Pos}
end
end GL
namespace GL
open PySem L2 PySem.Spec PyProof.Rows
section
variable {X : Cx} {S : Sg} {Γ : Gm} {μ μ' : Mem} {E : EG} {sts : List Stmt} {α : Type} [Rpd α]
end
end GL
namespace GL
open PySem L2 PySem.Spec PyProof.Rows
section
def frH (h : Heap) (a x : Addr) : Heap := (h.update a (Obj.mapFields (·.setIfInBounds 3 (.ref x)))).update a (Obj.mapFields (·.setIfInBounds 4 (.bool true)))
end
section
variable {X : Cx} {W : WX}
end
section
variable {M : Model} {A A' : Around} {E E2 : Value → Shared → Prop} {s : Shared} {B : Heap} {env : Env} {outer : List Env} {L a : Addr} {Z : Obj → Prop}
end
section
variable {X : Cx} {pins : List (Addr × Obj)} {σ : L2.St} {H : Hp} {s : Shared}
end
section
variable {X : Cx} {body : List Stmt} {x n : Str} {c : Value} {i : Nat} {st : Stmt} {suite : List Stmt} {np pp pos : Pos} {tb : WX → TS} {ts : Addr → Value → Option Addr → TS} {Wout : WX}
end
section
variable {X : Cx} {CX : CXT} {x : Str} {e : Expr} {es : List Expr} {ta : TA} {p pos : Pos} {C fI : Addr} {k : Nat} {fd : FuncData} {ps : List Str} {sp : Sp}
end
section
variable {X : Cx} {S : Sg} {e : Expr} {Γ : Gm} {μ : Mem} {Q : QD}
def strG (Γ : Gm) : Gm := Γ.map fun o => match o with
  | some (.str z) => some (.str z)
  | _ => none
end
section
variable {X : Cx} {S : Sg} {c : Nat} {fI : Addr} {fd : FuncData} {ps : List Str} {chk : List V → Prop} {x : Str} {p pos pos' : Pos} {e : Expr} {es : List Expr} {Γ : Gm} {μ : Mem} {E : EG}
structure ExcH (P : Program) (w : World) (K : PySem.W.Frag) (mg : Str → Option Value) (base : Heap) (S : Sg0) (c : Nat) (fI : Addr) (fd : FuncData) (ps : List Str) (chk : List V → Prop) : Prop where
  T : OexC K (S.cls c)
  iC : PySem.W.findIn K (.ref (S.cls c)) "__init__" = some (some (.ref fI))
  tI : PySem.W.typeIn K (.ref fI) = some (.type "function")
  hb : Binds K fd ps []
  F : L2H.FnH P w K mg base CX0 1 fI fd ps (spEx S c chk)
end
section
variable {X : Cx} {CX : CXT} {k : Nat} {f C : Addr} {fd : FuncData} {ps : List Str} {sp : Sp} {E : L2.St → XK} {m : Str} {pos apos : Pos} {e o : Expr} {es : List Expr} {ta : TE} {t : TA}
end
section
variable {X : Cx} {S : Sg} {E : EG} {Γ : Gm} {μ : Mem} {q : QE} {x n m : Str} {c : Value} {i k : Nat} {st : Stmt} {suite : List Stmt} {np pp pos epos cpos apos : Pos} {o e : Expr} {es : List Expr} {sg : SpG} {ns : List Str} {C f : Addr} {fd : FuncData} {ps : List Str}
end
end GL
namespace GL
open PySem L2 PySem.Spec PyProof.Rows
def tWith0 (C : Addr) (spE spX : Sp) (E : XK) (te : TE) (tb : TS) : TS := fun D σ H => te σ H fun v H1 => ∃ a dx fs, v = .ref a ∧ H1 a = some (.ins C dx fs) ∧ spE [.ref a] H1 (fun _ H2 =>
  tb { nx := fun σ' H' => spX [.ref a, .non, .non, .non] H' (fun _ H'' => D.nx σ' H'') E, rt := fun v H' => spX [.ref a, .non, .non, .non] H' (fun _ H'' => D.rt v H'') E,
       bk := fun σ' H' => spX [.ref a, .non, .non, .non] H' (fun _ H'' => D.bk σ' H'') E, ct := fun σ' H' => spX [.ref a, .non, .non, .non] H' (fun _ H'' => D.ct σ' H'') E } σ H2) E
section
variable {X : Cx} {CXE CXX : CXT} {kE kX : Nat} {C fe fx : Addr} {spE spX : Sp} {E : XK} {ctx : Expr} {body : List Stmt} {pos : Pos} {te : TE} {tb : TS}
end
section
variable {X : Cx} {S : Sg} {CXE CXX : CXT} {kE kX : Nat} {C fe fx : Addr} {sgE sgX : SpG} {ctx : Expr} {body : List Stmt} {pos : Pos} {Γ : Gm} {μ : Mem} {E : EG} {ns : List Str}
end
def sgStar (n : Nat) (sg : SpG) : SpG := fun ds μ Q E => ds.length = n + (ds.drop n).length ∧ (ds.drop n).length ≤ 16777216 ∧ sg (ds.take n ++ [.tup (ds.drop n)]) μ Q E
section
variable {P : Program} {w : World} {K : PySem.W.Frag} {mg : Str → Option Value} {base : Heap} {S : Sg0} {k : Nat} {f : Addr} {fd : FuncData} {N ps : List Str} {x qual pv : Str} {params : Arguments} {body : List Stmt} {scope : Scope} {dvs : List V} {kws : List (Str × V)}
variable {A Z ρ Y : Type}
def StarB (fd : FuncData) (ps : List Str) (pv : Str) : Prop := ∀ us rest : List Value, us.length = ps.length → bindArgs fd ⟨us ++ rest, []⟩ = (newTuple rest >>= fun t => pure (ps.zip us ++ [(pv, t)]))
end
def tMethSL (K : PySem.W.Frag) (C : Addr) (m : Str) (g : Addr) (sp : Sp) (E : XK) (ta te : TE) : TE := fun σ H Q => ta σ H fun x H1 => ∃ a dx fs, x = .ref a ∧ H1 a = some (.ins C dx fs) ∧ fs.lookup m = none ∧
  ∀ q, H1 q = none → te σ (upd H1 q (.met g a)) fun y H2 => ∃ b vs, y = .ref b ∧ (SqT K H2 b vs ∨ SqL K H2 b vs) ∧ H2 q = some (.met g a) ∧ sp (.ref a :: vs) H2 Q E
section
variable {X : Cx} {S : Sg} {CX : CXT} {k : Nat} {C g f : Addr} {sg : SpG} {m : Str} {o e : Expr} {es : List Expr} {p apos pos : Pos} {Γ : Gm} {μ : Mem} {Q : QD} {ns : List Str} {fd : FuncData} {ps : List Str}
end
end GL
namespace GL
open PySem L2 PySem.Spec PyProof.Rows
def restF {β γ δ ε ζ η θ ι κ : Type} : ((T3 Nm β γ) ⊕ (T3 Nm δ ε) ⊕ (T5 Nm ζ η θ ι) ⊕ (Nm × κ)) → ((β × γ) ⊕ (δ × ε) ⊕ (T4 ζ η θ ι) ⊕ Tu κ)
  | .inl x => .inl (x.b, x.c)
  | .inr (.inl x) => .inr (.inl (x.b, x.c))
  | .inr (.inr (.inl x)) => .inr (.inr (.inl ⟨x.b, x.c, x.d, x.e⟩))
  | .inr (.inr (.inr x)) => .inr (.inr (.inr ⟨[x.2]⟩))
section
variable {X : Cx} {S : Sg} {μ : Mem} {Q : QD} {β γ δ ε ζ η θ ι κ : Type} [Rpd β] [Rpd γ] [Rpd δ] [Rpd ε] [Rpd ζ] [Rpd η] [Rpd θ] [Rpd ι] [Rpd κ]
end
section
variable {X : Cx} {S : Sg} {CX : CXT} {k : Nat} {f C : Addr} {fd : FuncData} {ps : List Str} {sg : SpG} {Γ : Gm} {μ : Mem} {value o i : Expr} {p2 pos : Pos} {E : EG}
end
theorem onA2 {b : Bool} {cs : List Nat} {α β : Type} [Rpd β] [Only b cs β] (f : α → β) : ∀ l : List α, D.onlyA b cs (l.map fun x => rp (f x)) = true
  | [] => rfl
  | x :: l => by
    show (D.only b cs (rp (f x)) && D.onlyA b cs (l.map fun x => rp (f x))) = true
    rw [Only.on (f x), onA2 f l]
    rfl
instance {b : Bool} {cs : List Nat} {α : Type} [Rpd α] [Only b cs α] : Only b cs (Dc α) := ⟨fun x => onA2 (fun p : Nm × α => p.2) x.l⟩
end GL
namespace GL
open PySem L2 PySem.Spec PyProof.Rows
instance {b : Bool} {cs : List Nat} {α β γ δ ε : Type} [Rpd α] [Rpd β] [Rpd γ] [Rpd δ] [Rpd ε] [Only b cs α] [Only b cs β] [Only b cs γ] [Only b cs δ] [Only b cs ε] : Only b cs (T5 α β γ δ ε) := ⟨fun x => by
  show (D.only b cs (rp x.a) && (D.only b cs (rp x.b) && (D.only b cs (rp x.c) && (D.only b cs (rp x.d) && (D.only b cs (rp x.e) && true))))) = true
  rw [Only.on x.a, Only.on x.b, Only.on x.c, Only.on x.d, Only.on x.e]
  rfl⟩
section
variable {X : Cx}
def tBMx (T : String) (r : V → List V → Hp → VK → Prop) (to : TE) (t : TA) : TE := fun σ H Q => to σ H fun x H1 => (∃ p o u, x = V.ref p ∧ H1 p = some (.frz o u) ∧ o.cls = .type T ∧ o.dict = none) ∧ t σ H1 fun xs H2 => r x xs H2 Q
variable {o e : Expr} {es : List Expr} {to : TE} {t : TA} {name : Str} {apos cpos : Pos} {T id : String} {r : V → List V → Hp → VK → Prop}
end
def spTx (S : Sg0) (arg : D → List D → Prop) : Sp := fun vs H Q _ => ∃ F N v d l, vs = [v] ∧ RelM0 S F N H [] ∧ Rp S (vis N H (adr [])) v d ∧ arg d l ∧
  ∀ p o xs H', RelM0 S F N H' [] → vis N H' (adr []) p = some (.frz o (.tup xs)) → RpA S (vis N H' (adr [])) xs l → o.cls = .type "tuple" → o.dict = none → Q (.ref p) H'
section
variable {P : Program} {w : World} {K : PySem.W.Frag} {mg : Str → Option Value} {base : Heap} {S : Sg0} {k : Nat} {f : Addr} {fd : FuncData} {N ps : List Str} {x qual : Str} {params : Arguments} {body : List Stmt} {scope : Scope} {dvs : List V} {kws : List (Str × V)}
end
section
variable {X : Cx} {S : Sg} {CX : CXT} {k : Nat} {f C : Addr} {fd : FuncData} {ps : List Str} {arg : D → List D → Prop} {m : Str} {o e : Expr} {apos cpos ipos pos : Pos} {Γ : Gm} {μ : Mem} {Q : QD} {ns : List Str}
end
end GL
namespace GL
open PySem L2 PySem.Spec PyProof.Rows
section
variable {K : PySem.W.Frag} {f : Addr} {oc : Value} {od : Option Addr} {name qual : Str} {params : Arguments} {body : List Stmt} {scope : Scope} {kV doc pm cdv ct : Value} {an : Option Addr} {osl : Array (Option Value)}
theorem funD_of (l : K.lookup f = some ⟨oc, od, .func (PySem.W.fnOf name qual params body scope .none kV doc pm an cdv ct), osl⟩) (c : PySem.W.codeIn K cdv qual = true) (k : PySem.W.keepIn K (.ref f) = true) :
    FunD K name qual params body scope [] [] f (PySem.W.fnOf name qual params body scope .none kV doc pm an cdv ct) := ⟨⟨oc, od, _, kV, doc, pm, an, cdv, ct, osl, rfl, l, c, .inl ⟨rfl, rfl⟩, .inl rfl⟩, k⟩
abbrev fdOf {x qual : Str} {params : Arguments} {body : List Stmt} {scope : Scope} {dvs : List V} {kws : List (Str × V)} {fd : FuncData} (_ : FunD K x qual params body scope dvs kws f fd) : FuncData := fd
end
end GL
namespace GL
open PySem L2 PySem.Spec PyProof.Rows
section
variable {X : Cx} {S : Sg} {e : Expr} {Γ Γ' : Gm} {μ d0 bz bh : Mem} {bb : Bool} {cs : List Nat} {lz : List (Addr × D)}
abbrev Sg.lendC (S : Sg) (bb : Bool) (cs : List Nat) (p C : Addr) (μ : Mem) : Sg := ⟨S.toSg0, fun c fs μ' => Plain fs ∧ ∃ l', D.onlyA bb cs (l'.map (·.2)) = true ∧ μ' = [(p, .ins C l')] ∧ S.qx c fs ((p, .ins C l') :: μ), S.wx⟩
end
section
variable {b : Bool} {cs : List Nat} {α β γ δ : Type} [Rpd α] [Rpd β] [Rpd γ] [Rpd δ] [Only b cs α] [Only b cs β] [Only b cs γ] [Only b cs δ]
end
instance {α : Type} [Rpd α] : Apart (Tu α) Int := ⟨fun x y => by
  show D.eqv (.tup _) (.int _) = false ∧ D.eqv (.int _) (.tup _) = false
  simp [D.eqv, D.py, PyData.eqv]⟩
section
variable {X : Cx} {S : Sg} {μ : Mem} {Q : QD} {d e : D} {α β : Type} [DecidableEq α] [Dt α] [DecidableEq β] [Dt β]
end
end GL
namespace GL
open PySem L2 PySem.Spec PyProof.Rows
def FnA (P : Program) (w : World) (K : PySem.W.Frag) (mg : Str → Option Value) (base : Heap) (k : Nat) (f : Addr) (sp : Sp) : Prop :=
  ∀ (A : Around) (outer : List Env) (s : Shared) (H : Hp) (us : List Value) (vs : List V) (Q : VK), L2H.RoomH k A → Env0 P w K mg base A outer s H → Vals vs us → sp vs H Q (fun _ _ _ => False) →
    codeAny (model P w) A (.call (.ref f) ⟨us, []⟩) (CR CX0 outer P w H s Q (fun _ _ _ => False)) s
abbrev cxA (P : Program) (w : World) (K : PySem.W.Frag) (mg : Str → Option Value) (base : Heap) (N : List Str) (qual : Str) (scope : Scope) (f : Addr) (cd : Value) (A : Around) (outer : List Env) (s : Shared) (H : Hp) : Cx :=
  { cxOf CX0 P w K mg base N qual scope f cd A outer s H (fun _ _ _ => False) with calm := false }
section
variable {P : Program} {w : World} {K : PySem.W.Frag} {mg : Str → Option Value} {base : Heap} {k : Nat} {f : Addr} {fd : FuncData} {x qual : Str} {params : Arguments} {body : List Stmt} {scope : Scope} {dvs : List V} {kws : List (Str × V)} {N ps : List Str}
end
section
variable {P : Program} {w : World} {K : PySem.W.Frag} {mg : Str → Option Value} {base : Heap} {S : Sg0} {k : Nat} {f : Addr} {fd : FuncData} {N ps : List Str} {x qual : Str} {params : Arguments} {body : List Stmt} {scope : Scope} {dvs : List V} {kws : List (Str × V)}
variable {A Z ρ Y : Type}
end
section
variable {pr : Program} {w : World} {A : Around} {E : Value → Shared → Prop} {s : Shared} {env : Env} {K : PySem.W.Frag} {x C fe fx : Addr} {ox : Obj} {od : Option Obj} {pos : Pos}
def WEnd (pr : Program) (w : World) (A : Around) (E : Value → Shared → Prop) (env : Env) (x fx : Addr) (Q : Flow → Shared → Prop) (e : Value) (t : Shared) : Prop :=
  wpAny (model pr w) A (noteFrame e env) (fun _ t1 => e ≠ byPass ∧ wpAny (model pr w) A (setFlight e none) (fun _ t2 => wpAny (model pr w) A (typeOf e) (fun c t3 => wpAny (model pr w) A (tracebackOf e) (fun tb t4 =>
    codeAny (model pr w) (A.mark (some e)) (.call (.ref fx) ⟨[.ref x, c, e, tb], []⟩) (fun r t5 => r = .ok (.ret (.bool false)) ∧ wpAny (model pr w) A (passOn "with" e env : Sem Flow) Q E t5) t4) E t3) E t2) E t1) E t
end
def tWithX (C : Addr) (spE spX spY : Sp) (E : XK) (Wout : WX) (te : TE) (tb : WX → TS) : TS := fun D σ H => te σ H fun v H1 => ∃ a dx fs, v = .ref a ∧ H1 a = some (.ins C dx fs) ∧ spE [.ref a] H1 (fun _ H2 =>
  tb (fun cls d τ G => ∃ c, cls = .ref c ∧ ∀ (x : Addr) (y : V), (y = .non ∨ ∃ T, y = .ref T) → spY [.ref a, .ref c, .ref x, y] G (fun z G' => z = .bl false ∧ Wout cls d τ G') (fun _ _ _ => False))
    { nx := fun τ G => spX [.ref a, .non, .non, .non] G (fun _ G' => D.nx τ G') E, rt := fun v G => spX [.ref a, .non, .non, .non] G (fun _ G' => D.rt v G') E,
      bk := fun τ G => spX [.ref a, .non, .non, .non] G (fun _ G' => D.bk τ G') E, ct := fun τ G => spX [.ref a, .non, .non, .non] G (fun _ G' => D.ct τ G') E } σ H2) E
section
variable {X : Cx} {CXE CXX : CXT} {kE kX kY : Nat} {C fe fx : Addr} {spE spX spY : Sp} {E : XK} {ctx : Expr} {body : List Stmt} {pos : Pos} {te : TE} {tb : WX → TS} {Wout : WX}
end
section
variable {X : Cx} {CXE CXX : CXT} {kE kX kY : Nat} {C fe fx : Addr} {spE spX spY : Sp} {E : XK} {ctx : Expr} {body : List Stmt} {pos : Pos} {te : TE} {tb : WX → TS} {Wout : WX}
end
section
variable {X : Cx} {S : Sg} {CXE CXX : CXT} {kE kX kY : Nat} {C fe fx : Addr} {sgE sgX sgY : SpG} {ctx : Expr} {body : List Stmt} {pos : Pos} {Γ : Gm} {μ : Mem} {E : EG} {ns : List Str}
def withQ (S : Sg) (sgY : SpG) (d : D) : QE := fun c fs μ => ∀ (x : Addr) (dy : D), (dy = .non ∨ ∃ T, dy = .ref T) → AskG S.toSg0.nx sgY [d, .ref (S.cls c), .ref x, dy] μ fun z μ' => z = .bl false ∧ S.qx c fs μ'
end
end GL
namespace GL
open PySem L2 PySem.Spec PyProof.Rows
section
variable {X : Cx} {CX : CXT} {k : Nat} {C f : Addr} {m : Str} {sp : Sp} {E : XK} {o e : Expr} {es : List Expr} {ta : TE} {t : TA} {apos pos : Pos}
end
section
variable {X : Cx} {S : Sg} {CX : CXT} {k : Nat} {C f : Addr} {sg : SpG} {m : Str} {o e : Expr} {es : List Expr} {apos pos : Pos} {Γ : Gm} {μ : Mem} {Q : QD} {ns : List Str}
end
structure WTup (K : PySem.W.Frag) (t : Addr) (xs : List Str) : Prop where
  ex : ∃ (o : Obj) (its : Array Value) (n : Nat), K.lookup t = some o ∧ o.cls = .type "tuple" ∧ o.data = .seq its n ∧ its.size ≤ sizeLine ∧ Vals (xs.map V.str) its.toList
section
variable {X : Cx} {S : Sg} {C t : Addr} {mc : Value} {f : Str} {e : Expr} {pos : Pos} {Γ : Gm} {μ : Mem} {Q : QD} {xs ys : List Str}
end
section
variable {β γ δ ε ζ η θ ι κ ν : Type}
def dwX : ((T3 Nm β γ) ⊕ (T3 Nm δ ε) ⊕ (T5 Nm ζ η θ ι) ⊕ (Nm × κ)) ⊕ (Nm × ν) → Nm
  | .inl x => dwF x
  | .inr x => x.1
def restX : ((T3 Nm β γ) ⊕ (T3 Nm δ ε) ⊕ (T5 Nm ζ η θ ι) ⊕ (Nm × κ)) ⊕ (Nm × ν) → ((β × γ) ⊕ (δ × ε) ⊕ (T4 ζ η θ ι) ⊕ Tu κ) ⊕ Tu ν
  | .inl x => .inl (restF x)
  | .inr x => .inr ⟨[x.2]⟩
variable {X : Cx} {S : Sg} {μ : Mem} {Q : QD} [Rpd β] [Rpd γ] [Rpd δ] [Rpd ε] [Rpd ζ] [Rpd η] [Rpd θ] [Rpd ι] [Rpd κ] [Rpd ν]
end
end GL
namespace GL
open PySem L2 PySem.Spec PyProof.Rows PySem.W PySem.Builtin PySem.Builtin.Int PySem.Builtin.Float
def spC : Str := Str.ofString ","
def fC : FormatSpec := { fill := 32, align := 62, grouping := some ',' }
def comT (a : Int) : Str := intField' fC (decide (a < 0)) [] ((Nat.toDigits 10 a.natAbs).map fun c => c.toNat) [] 3
section
variable {prog : Program} {w : World} {A : Around} {E : Value → Shared → Prop} {s : Shared}
end
end GL
namespace GL
open PySem L2 PySem.Spec PyProof.Rows PySem.W PySem.Builtin PySem.Builtin.Str PySem.Builtin.Float
def spL : Str := Str.ofString "<12"
def spR : Str := Str.ofString ">16"
def fL : FormatSpec := { fill := 32, align := 60, width := some 12 }
def fR : FormatSpec := { fill := 32, align := 62, width := some 16 }
def padL (x : Str) : Str := if x.length ≥ 12 then x else ⟨(x.cps.toList ++ List.replicate (12 - x.length) 32).toArray⟩
def padR (x : Str) : Str := if x.length ≥ 16 then x else ⟨(List.replicate (16 - x.length) 32 ++ x.cps.toList).toArray⟩
end GL
namespace GL
open PySem L2 PySem.Spec PyProof.Rows PySem.W PySem.Builtin PySem.Builtin.Str PySem.Builtin.Float
end GL
namespace L2
open PySem PySem.Spec PyProof.Rows GL
section
variable {X : Cx}
def ltT (x : Str) : Prop := x.length ≤ 100000
theorem sz_ok {x : Str} (h : x.length ≤ 100000) : x.length ≤ sizeLine := by rw [sizeLine_eq]; omega
end
end L2
namespace GL
open PySem L2 PySem.Spec PyProof.Rows TL
def nmOf (x : Str) : Nm := if h : OkS x ∧ x.length ≤ 1000 then ⟨x, h⟩ else nmE
theorem nmOf_eq {x : Str} (h : OkS x) (hz : x.length ≤ 1000) : (nmOf x).1 = x := by unfold nmOf; rw [dif_pos ⟨h, hz⟩]
def nmLj (x : Nm) : Nm := nmOf (Txt.ljust x.1 12)
def nmRj (x : Nm) : Nm := nmOf (Txt.rjust x.1 16)
def nmCut (x : Nm) (lo hi : Option Int) : Nm := nmOf (cutS x.1 lo hi)
def nmDec (n : Int) : Nm := nmOf (Str.ofString (toString n))
def nmCom (n : Int) : Nm := nmOf (comT n)
def digs (n : Int) : List Nat := (Nat.toDigits 10 n.natAbs).map fun c => c.toNat
def grp : Nat → List Nat → List Nat → List Nat
  | 0, _, out => out
  | k + 1, rd, out => if rd.length ≤ 3 then rd.reverse ++ out else grp k (rd.drop 3) (44 :: ((rd.take 3).reverse ++ out))
end GL
namespace GL
open PySem L2 PySem.Spec PyProof.Rows TL
abbrev TLn := {x : Str // OkS x ∧ x.length ≤ 5000}
instance : Rpd TLn := ⟨fun x => .str x.1⟩
instance : Dt TLn where
  dep := 0
  dok x := x.2.1
  deq x y := by
    refine (eqv_str x.1 y.1).trans (decide_eq_decide.mpr ⟨fun h => Subtype.ext h, fun h => by rw [h]⟩)
instance : Nn TLn := ⟨fun x => by simp [Rpd.rp, D.eqv, D.py, PyData.eqv]⟩
instance {b : Bool} {ks : List Nat} : Only b ks TLn := ⟨fun _ => rfl⟩
def sp1 : Str := Str.ofString " "
theorem sp1_ok : OkS sp1 := by decide +kernel
theorem sp1_len : sp1.length = 1 := by decide +kernel
def lineOf (p q r : Nm) : TLn := ⟨p.1 ++ sp1 ++ q.1 ++ sp1 ++ r.1, (((p.2.1.app sp1_ok).app q.2.1).app sp1_ok).app r.2.1, by
  have := p.2.2
  have := q.2.2
  have := r.2.2
  rw [str_app_len, str_app_len, str_app_len, str_app_len, sp1_len]
  omega⟩
section
variable {X : Cx} {S : Sg} {Γ : Gm} {μ : Mem} {Q : QD} {e a b c : Expr} {pos : Pos}
def cm1 : Str := Str.ofString ","
def nmJnC (l : List Nm) : Nm := nmOf (Txt.join cm1 (l.map (·.1)))
end
end GL
namespace GL
open PySem L2 PySem.Spec PyProof.Rows
def hdlN (X : Cx) (S : Sg0) (E : EG) (suite : List Stmt) (c : Value) (q : QE) : QE := fun k ds μ => ∃ b, PySem.W.exmOne X.K (.ref (S.cls k)) c = some b ∧
  (b = true → ∀ (a dd : Addr) (oe : Obj) (pn : List (Addr × Obj)), Zc (.ref (S.cls k)) (some dd) oe → (∃ vs, oe.data = .fields vs) → BlG (X.suite a ((a, oe) :: pn)) S.nx suite (List.replicate X.N.length none) μ E) ∧ (b = false → q k ds μ)
section
variable {X : Cx} {S : Sg} {E : EG} {body : List Stmt} {Γ : Gm} {μ : Mem} {pos : Pos}
end
end GL
namespace L2
open PySem PySem.Spec PyProof.Rows
section
variable {X : Cx} {e : Expr} {te : TE} {p apos cpos pos : Pos}
end
end L2
namespace GL
open PySem L2 PySem.Spec PyProof.Rows
section
variable {X : Cx} {S : Sg} {Γ : Gm} {μ : Mem} {Q : QD} {e : Expr} {p apos cpos pos : Pos} {α : Type} [Rpd α]
end
end GL
namespace L2
open PySem PySem.Spec PyProof.Rows
section
variable {X : Cx}
def rEqR (K : PySem.W.Frag) : R2 := fun x y H Q => ∃ (a b : Addr) (as bs : List Addr), x = .ref a ∧ y = .ref b ∧ SqL K H a (as.map V.ref) ∧ SqL K H b (bs.map V.ref) ∧ as = bs ∧ Q (.bl true) H
def rNeR (K : PySem.W.Frag) : R2 := fun x y H Q => ∃ (a b : Addr) (as bs : List Addr), x = .ref a ∧ y = .ref b ∧ SqL K H a (as.map V.ref) ∧ SqL K H b (bs.map V.ref) ∧ ((as = bs ∧ Q (.bl false) H) ∨ (as.length ≠ bs.length ∧ Q (.bl true) H))
end
end L2
namespace GL
open PySem L2 PySem.Spec PyProof.Rows
section
variable {X : Cx} {S : Sg} {Γ : Gm} {μ : Mem} {Q : QD} {E : EG} {sts : List Stmt} {pos : Pos} {x : Str} {as bs : List Addr} {l l' : List D}
inductive Adrd : D → Prop
  | obj (c : Nat) (l : List D) : Adrd (.obj c l)
  | tup (l : List D) : Adrd (.tup l)
end
end GL
namespace L2
open PySem PySem.Spec PyProof.Rows
section
variable {X : Cx} {e : Expr} {es : List Expr} {ta : TA} {p pos : Pos}
def rIsX (K : PySem.W.Frag) : List V → Hp → VK → Prop := fun xs H Q => ∃ (a D dd : Addr) (fs : List (Str × V)) (c : V) (cv : Value) (b : Bool), xs = [.ref a, c] ∧ H a = some (exo a D (some dd)) ∧ H dd = some (exd dd fs) ∧ ExcC K D ∧ (∀ u, RelV c u → u = cv) ∧ PySem.W.kitOne K (.ref D) cv = some b ∧ Q (.bl b) H
def rNeL (K : PySem.W.Frag) : R2 := fun x y H Q => ∃ (a b : Addr) (xs ys : List V), x = .ref a ∧ y = .ref b ∧ SqL K H a xs ∧ SqL K H b ys ∧ xs.length ≠ ys.length ∧ Q (.bl true) H
def tXv (C : Addr) (f : Str) (te : TE) : TE := fun σ H Q => te σ H fun x H1 => ∃ (a dd : Addr) (fs : List (Str × V)) (v : V), x = .ref a ∧ H1 a = some (exo a C (some dd)) ∧ H1 dd = some (exd dd fs) ∧ fs.lookup f = some v ∧ Q v H1
end
end L2
namespace GL
open PySem L2 PySem.Spec PyProof.Rows
section
variable {X : Cx} {S : Sg} {c : Nat} {fI : Addr} {fd : FuncData} {ps : List Str} {chk : List V → Prop} {x n : Str} {p pos : Pos} {e : Expr} {es : List Expr} {Γ : Gm} {μ : Mem} {Q : QD} {l : List D}
end
def spNv (S : Sg0) (c : Nat) : Sp := fun vs H Q _ => ∃ (a b : Addr) (xs : List V), vs = [.ref a, .ref b] ∧ (SqL S.K H b xs ∨ SqT S.K H b xs) ∧ H a = some (exo a (S.cls c) none) ∧
  ∀ (d q : Addr) (H' : Hp), H d = none → d ≠ a → H q = none → q ≠ a → q ≠ d → H' a = some (exo a (S.cls c) (some d)) → H' d = some (exd d ((S.nms c).zip [V.ref q])) → H' q = some (.lst xs) → (∀ b, b ≠ a → b ≠ d → b ≠ q → H' b = H b) → Q .non H'
structure NvP (P : Program) (w : World) (K : PySem.W.Frag) (mg : Str → Option Value) (base : Heap) (S : Sg0) (c : Nat) (fI : Addr) (fd : FuncData) (ps : List Str) : Prop where
  T : OexC K (S.cls c)
  iC : PySem.W.findIn K (.ref (S.cls c)) "__init__" = some (some (.ref fI))
  tI : PySem.W.typeIn K (.ref fI) = some (.type "function")
  hb : Binds K fd ps []
  F : FnOk P w K mg base CX0 1 fI fd ps (spNv S c)
section
variable {X : Cx} {S : Sg} {c : Nat} {fI : Addr} {fd : FuncData} {ps : List Str} {x : Str} {p pos : Pos} {e : Expr} {es : List Expr} {Γ : Gm} {μ : Mem} {Q : QD} {l : List D}
end
def zipI (as : List Addr) (l : List D) : List D := List.zipWith D.idn as l
section
variable {X : Cx} {S : Sg} {Γ : Gm} {μ : Mem} {Q : QD} {E : EG} {sts : List Stmt} {as : List Addr} {l : List D} {d e : D}
end
section
variable {X : Cx} {S : Sg} {o e : Expr} {Γ : Gm} {μ : Mem} {E : EG} {sts : List Stmt} {apos cpos pos : Pos}
end
end GL
namespace GL
open PySem L2 PySem.Spec PyProof.Rows
section
variable {X : Cx} {S : Sg} {μ : Mem} {Q : QD} {d : D}
end
section
variable {X : Cx} {S : Sg} {μ : Mem} {Q : QD}
end
end GL
namespace GL
open PySem L2 PySem.Spec PyProof.Rows
section
variable {A ρ : Type} [Rpd ρ]
def sgXL (args : A → List D) (m : A → (ρ → Prop) → KX → Prop) : SpG := fun ds μ Q E => ∃ a k kx, ds = args a ∧ μ = [] ∧ m a k kx ∧ (∀ r, k r → Q (rp r) []) ∧ ∀ c fs, kx c fs → E c fs []
variable {args : A → List D}
section
variable {P : Program} {w : World} {K : PySem.W.Frag} {mg : Str → Option Value} {base : Heap} {N ps : List Str} {x qual : Str} {params : Arguments} {body : List Stmt} {scope : Scope} {dvs : List V} {kws : List (Str × V)} {f : Addr} {fd : FuncData} {S : Sg0} {k : Nat}
end
end
section
variable {X : Cx} {S : Sg} {c : Nat} {fI : Addr} {fd : FuncData} {ps : List Str} {x : Str} {p pos pos' : Pos} {e : Expr} {Γ : Gm} {μ : Mem} {E : EG}
end
end GL
namespace GL
open PySem L2 PySem.Spec PyProof.Rows
section
variable {X : Cx} {S : Sg} {Γ : Gm} {μ : Mem} {pos : Pos}
end
end GL
namespace GL
open PySem L2 PySem.Spec PyProof.Rows
def LcU (X : Cx) (S : Sg) (tg elt : Expr) (ifs : List Expr) (scope : Scope) (vs : List Nat) (Γ : Gm) (Q : List D → Mem → Prop) : List D → List D → Mem → Prop
  | [], acc, μ => Q acc μ
  | d :: ds, acc, μ => ∀ k : Bk, LcStep X S tg elt ifs scope vs Γ k d μ (fun _ _ => False) (fun y μ4 => acc.length < 1000 ∧ LcU X S tg elt ifs scope vs Γ Q ds (acc ++ [y]) μ4)
section
variable {X : Cx} {S : Sg} {tg elt : Expr} {ifs : List Expr} {scope : Scope} {vs : List Nat} {Γ : Gm} {μ : Mem} {Q : List D → Mem → Prop}
end
end GL
namespace GL
open PySem L2 PySem.Spec PyProof.Rows
def lcW (X : Cx) (scope : Scope) (tg iter : Expr) : TI := fun σ H R => ∀ k : Bk, ∃ wi, PI (k.cx X scope) tg iter wi ∧ wi σ H R
def Lc2In (X : Cx) (S : Sg) (tg1 elt : Expr) (scope : Scope) (vs1 : List Nat) (Γ2 : Gm) (K : List D → Mem → Prop) (acc : List D) : RI := fun Km1 ds1 μ3 => ∃ I1 : Nat → List D → Mem → Prop, I1 0 acc μ3 ∧ (∀ j acc1 μ', I1 j acc1 μ' → Km1 μ') ∧
  (∀ j d1 acc1 μ', ds1[j]? = some d1 → I1 j acc1 μ' → ∀ k : Bk, TgG (k.cx X scope) S vs1 tg1 d1 (wipeG Γ2 vs1) μ' fun Γ3 μ4 => ∀ k : Bk, EvG (k.cx X scope) S elt Γ3 μ4 fun y μ5 => acc1.length < 16777216 ∧ I1 (j + 1) (acc1 ++ [y]) μ5) ∧
  ∀ acc1 μ', I1 ds1.length acc1 μ' → K acc1 μ'
def Lc2G (X : Cx) (S : Sg) (tg tg1 iter1 elt : Expr) (scope : Scope) (vs vs1 : List Nat) (Γ : Gm) (Km : Mem → Prop) (ds : List D) (μ1 : Mem) (Q : List D → Mem → Prop) : Prop :=
  ∃ I : Nat → List D → Mem → Prop, I 0 [] μ1 ∧ (∀ i acc μ', I i acc μ' → Km μ') ∧
    (∀ i d acc μ', ds[i]? = some d → I i acc μ' → ∀ k : Bk, TgG (k.cx X scope) S vs tg d (wipeG Γ vs) μ' fun Γ2 μ2 => ∀ k : Bk, IterG (k.cx X scope) S tg1 iter1 Γ2 μ2 (Lc2In X S tg1 elt scope vs1 Γ2 (I (i + 1)) acc)) ∧
    (∀ acc μ', I ds.length acc μ' → Q acc μ')
section
variable {X : Cx} {S : Sg} {tg iter tg1 iter1 elt : Expr} {scope : Scope} {own : List (Str × Nat)} {Γ : Gm} {μ : Mem} {pos : Pos}
end
end GL
namespace GL
open PySem L2 PySem.Spec PyProof.Rows
structure SupC (K : PySem.W.Frag) (C D : Addr) (m : Str) (f2 : Addr) : Prop where
  sup : PySem.W.ks_superIn K C D m = some (some (.ref f2))
  mro : PySem.W.mroIn K C (.ref D) = some true
  dcl : PySem.W.isClsIn K D = true
  stat : PySem.W.nsIn K cStatics "thirdparty.any" = some none
  ty : PySem.W.typeIn K (.ref f2) = some (.type "function")
  fi : PySem.W.fnIn K f2 = true
section
variable {P : Program} {w : World} {K : PySem.W.Frag} {mg : Str → Option Value} {base : Heap} {N ps : List Str} {x qual : Str} {params : Arguments} {body : List Stmt} {scope : Scope} {f C D cda cc f2 : Addr} {fd : FuncData} {A : Around} {outer : List Env} {s0 : Shared} {H0 : Hp}
variable {pins pn : List (Addr × Obj)} {cm : Bool} {σ : L2.St} {H : Hp} {s : Shared} {a dx : Addr} {fs : List (Str × V)} {m : Str}
theorem sup_baseI {ar : Arg} {p0 p1 : Pos} {attr : Str} {whole : Sem Value} {Q : Value → Shared → Prop} {E : Value → Shared → Prop} (F : FunS P K x qual params body scope f fd D cda cc) (S : FnScopeS N ps scope) (G : SupC K C D m f2)
    (hp : (params.posonlyargs ++ params.args).head? = some ar) (h0 : N[0]? = some ar.arg) (hl : scope.names.lookup ar.arg = some .local) (hmg : mg "super" = none) (hat : (attr == ("__class__" : Str)) = false)
    (I : Inv (cxSc cm pn P w K mg base N qual scope f cda cc A outer s0 H0) pins σ H s) (h1 : σ[0]? = some (some (.ref a))) (e : H a = some (.ins C dx fs))
    (q : ∀ h', h'.get? s.heap.objs.size = some (PySem.W.ks_superObj D a C) → (∀ b o, s.heap.get? b = some o → h'.get? b = some o) → Q (.ref s.heap.objs.size) { s with heap := h' }) :
    _root_.PySem.wpAt (model P w) (A.deeper (envS qual scope s0.heap.objs.size f cda cc)) (.func body (envS qual scope s0.heap.objs.size f cda cc)) (attributeBase (.Call (.Name "super" p0) [] [] p1) attr (envS qual scope s0.heap.objs.size f cda cc) whole) Q E s := by
  have k := I.kIn
  obtain ⟨oc, od, kV, doc, pm, an, ct, osl, rfl, lk, hcd⟩ := F.ex
  obtain ⟨ccl, cdd, vs, ccs, file, tf, hc1, hc2, hc3⟩ := F.code
  obtain ⟨mA, O, _, _, _, _⟩ := ins_get I.hok e
  have ho := O.obj
  obtain ⟨mb, b1, b2⟩ := I.mod.blt
  obtain ⟨m', hn, hv⟩ := I.loc
  obtain ⟨u, ru, lu⟩ := hv 0 ar.arg (.ref a) h0 h1 (.inl hl)
  obtain rfl : u = Value.ref a := ru
  have lm : m' ar.arg = some (.ref a) := by
    rcases lu with ⟨_, z⟩ | ⟨z | z, _⟩
    · exact z
    · have z : scope.names.lookup ar.arg = some .cell := z
      rw [hl] at z
      cases z
    · have z : scope.names.lookup ar.arg = some .free := z
      rw [hl] at z
      cases z
  have hs : (envS qual scope s0.heap.objs.size f cda cc).kindOf "super" = some .globalImplicit := S.sup
  have hcl : (envS qual scope s0.heap.objs.size f cda cc).kindOf "__class__" = some .free := S.cls
  have hla : (envS qual scope s0.heap.objs.size f cda cc).kindOf ar.arg = some .local := hl
  obtain ⟨cdD, hD⟩ := Option.isSome_iff_exists.mp (show (PySem.W.clsIn K D).isSome = true from G.dcl)
  obtain ⟨oD, hD1, hD2⟩ : ∃ oD, s.heap.get? D = some oD ∧ oD.data = .cls cdD := by
    unfold PySem.W.clsIn at hD
    split at hD
    · rename_i c d cd' sl ho
      cases hD
      exact ⟨_, k _ _ ho, rfl⟩
    · cases hD
  refine PySem.ks_wpAt_super_base hs hcl hat rfl (k _ _ lk) rfl hp rfl (k _ _ hc1) rfl hc2 hc3 F.top ?_
  refine PySem.W.ks_loadName_global S.kind hs (Calls.loadGlobal_builtin (I.mod.glob.keeps I.bk) hmg (b1.keeps I.bk) ((b2 _ (by decide)).trans PyProof.Rows.Boot.«super») ⟨rfl, ?_⟩)
  refine wpAny_loadName_free S.kind hcl rfl (F.cellAt k) (wpAny_loadName_local S.kind hla hn lm ?_)
  obtain ⟨hp', g, d, t, os⟩ := s
  refine PySem.ks_wpAny_isType_cls hD1 hD2 ⟨rfl, ?_⟩
  exact PySem.ks_wpAny_call_super hD1 hD2 ho rfl (fun c z => by cases z) (PySem.W.looks_mroIn k G.mro) fun h' e' k' => q h' e' k'
theorem sup_fn {k : Nat} {fd2 : FuncData} {sp2 sp : Sp} {ar : Arg} {p0 p1 p2 p3 p5 p6 p7 : Pos} {t : Str} {kk : Nat}
    (F : FunS P K x qual params [.Return (some (.BinOp (.Call (.Attribute (.Call (.Name "super" p0) [] [] p1) m p2) [] [] p3) .Add (.Constant (.str t) kk p5) p6)) p7] scope f fd D cda cc)
    (S : FnScopeS N ["self"] scope) (hp : (params.posonlyargs ++ params.args).head? = some ar) (h0 : N[0]? = some ar.arg) (hl : scope.names.lookup ar.arg = some .local) (hmg : mg "super" = none) (hat : (m == ("__class__" : Str)) = false)
    (F2 : FnOk P w K mg base CX0 k f2 fd2 ["self"] sp2) (hb2 : Binds K fd2 ["self"] [])
    (h : ∀ vs H Q E, sp vs H Q E → ∃ a C dx fs, vs = [.ref a] ∧ H a = some (.ins C dx fs) ∧ SupC K C D m f2 ∧ sp2 [.ref a] H (fun v H' => ∃ y : Str, v = .str y ∧ y.length + t.length ≤ sizeLine ∧ Q (.str (y ++ t)) H') E)
    (hev : ∀ L, ∃ pl : Sem Bool, eval (.Call (.Attribute (.Call (.Name "super" p0) [] [] p1) m p2) [] [] p3) (envS qual scope L f cda cc) = (do
      let ov ← attributeBase (.Call (.Name "super" p0) [] [] p1) m (envS qual scope L f cda cc) (eval (.Call (.Name "super" p0) [] [] p1) (envS qual scope L f cda cc))
      standAt p2.atName
      let (fv, first) ← holding [ov] (getMethod ov m pl)
      callWith p3 fv first (backTo p3 (starEach [] (envS qual scope L f cda cc))) []) := by intro _; exact ⟨_, rfl⟩) :
    FnOk P w K mg base CX0 (k + 1) f fd ["self"] sp := by
  refine ⟨fun vs H Q E q => ?_, fun A outer s H args us vs Q E hr e0 hbd r hsp => ?_⟩
  · obtain ⟨a, C, dx, fs, rfl, _⟩ := h vs H Q E q
    rfl
  obtain ⟨a, C, dx, fs, rfl, ea, G, h2⟩ := h vs H Q E hsp
  obtain ⟨oc, od, kV, doc, pm, an, ct, osl, rfl, lk, hcd⟩ := id F.ex
  have kin : K.In s.heap := e0.mod.kin.keeps fun b o e => (e0.bs b o e).1
  have lim : s.heap.NoLimit := e0.mod.nolimit.keeps fun b o e => (e0.bs b o e).1
  have hs0 : (L2.start N [V.ref a])[0]? = some (some (.ref a)) := by
    unfold L2.start
    rfl
  refine PySem.ks_codeAny_call_defAt (fd := PySem.W.ksFn x qual params _ scope .none kV doc pm an (.ref cda) ct cc) (binds := (["self"] : List Str).zip us) hr.depth (kin _ _ lk) rfl lim (PySem.W.codeRec_of kin hcd) rfl hbd S.nocell (fun y hy => S.par _ (List.of_mem_zip hy).1) (fun h1 hns hk => ?_) S.co S.gen S.kind
  have I := inv_startS (cm := true) (pn := []) (w := w) (mg := mg) (base := base) (tk := s.toks + ((["self"] : List Str).zip us).length) F S (fun _ => hr.hd) (fun _ h => by cases h) e0 rfl r hns hk
  show _root_.PySem.wpAt (model P w) (A.deeper (envS qual scope s.heap.objs.size f cda cc)) (.func _ (envS qual scope s.heap.objs.size f cda cc)) (execs _ (envS qual scope s.heap.objs.size f cda cc)) _ _ _
  obtain ⟨pl, hev⟩ := hev s.heap.objs.size
  refine PySem.ks_wpAt_execs_cons (PySem.ks_wpAt_Return_some (PySem.ks_wpAt_BinOp ?_))
  refine PySem.ks_wpAt_MethodCall (pl := pl) ?_ hev
  refine sup_baseI F S G hp h0 hl hmg hat I hs0 ea fun h1' hso k1 => ?_
  have I1 := I.kept (t' := s.toks + ((["self"] : List Str).zip us).length) k1
  have kk1 := I1.kIn
  obtain ⟨mA, O, _, _, _, _⟩ := ins_get I1.hok ea
  have hsup := G.sup
  unfold PySem.W.ks_superIn at hsup
  cases hcl : PySem.W.clsIn K C with
  | none => rw [hcl] at hsup; cases hsup
  | some cd =>
  rw [hcl] at hsup
  have hne : a ≠ C := fun z => by
    unfold PySem.W.clsIn at hcl
    split at hcl
    · rename_i c d cd' sl ho
      have e := kk1 _ _ ho
      have o2 := O.obj
      rw [z, e] at o2
      cases o2
    · cases hcl
  obtain ⟨of, hof, hofc⟩ : ∃ of, h1'.get? f2 = some of ∧ of.cls = .type "function" := by
    have ht' : (K.lookup f2).map (·.cls) = some (.type "function") := G.ty
    cases z : K.lookup f2 with
    | none => rw [z] at ht'; cases ht'
    | some of => rw [z] at ht'; exact ⟨of, kk1 _ _ z, Option.some.inj ht'⟩
  refine PySem.ks_wpAny_getMethod_super hso (PySem.W.looks_opaque kk1 G.stat) (l₀ := cd.mro) (fun A Q E s k q => wpAny_bind ((PySem.W.looks_clsIn kk1 hcl) A _ E s k (wpAny_pure q))) rfl kk1 hsup hof hofc hne hat ?_
  have I2 : Inv (cxSc true [] P w K mg base N qual scope f cda cc A outer s H) [] (L2.start N [V.ref a]) H _ := I1.kept (t' := s.toks + ((["self"] : List Str).zip us).length + 1) fun b o z => Heap.get?_push_of_some { cls := .type "method", data := .fields #[.ref f2, .ref a] } z
  refine PySem.W.callWith_M0 (q := h1'.objs.size) (g := f2) (self := .ref a) ⟨Heap.get?_push_size _ rfl, I2.kIn⟩ G.fi ?_
  refine wpAny_call (PySem.ks_codeAny_call_bound (Heap.get?_push_size _ rfl) ?_)
  refine codeAny_mono (F2.run (A.deeper (envS qual scope s.heap.objs.size f cda cc)) (envS qual scope s.heap.objs.size f cda cc :: outer) _ H ⟨[.ref a], []⟩ [.ref a] [.ref a] _ E (hr.deeper _) I2.env0 (by simpa using hb2 _ [.ref a] I2.kIn rfl) (.cons rfl .nil) h2) fun r s3 hq => ?_
  cases r with
  | error e => exact False.elim hq
  | ok fl =>
    cases fl with
    | next => exact False.elim hq
    | brk => exact False.elim hq
    | cont => exact False.elim hq
    | ret u =>
      obtain ⟨v, H3, I3, rv, y, rfl, hz, q⟩ := I2.after hq
      refine wpAny_mono ((pe_str (X := cxS P w K mg base N qual scope f cda cc A outer s H)).run [] s3 _ H3 (fun v H' => v = .str t ∧ H' = H3) I3 ⟨rfl, rfl⟩) (fun b s4 hb => ?_) fun _ _ z => False.elim z
      obtain ⟨v4, H4, I4, rv4, rfl, rfl⟩ := hb
      refine wpAny_mono (op_add_str (X := cxS P w K mg base N qual scope f cda cc A outer s H) [] s4 _ H4 (.str y) (.str t) _ _ Q I4 rv rv4 ⟨y, t, rfl, rfl, hz, q⟩) (fun b s5 hb => ?_) fun _ _ z => False.elim z
      obtain ⟨v5, H5, I5, rv5, q5⟩ := hb
      exact ⟨v5, H5, I5.os, I5.bare, I5.base, I5.hok, rv5, q5⟩
end
end GL
namespace GL
open PySem L2 PySem.Spec PyProof.Rows TL
def cm2 : Str := Str.ofString ", "
def cl2 : Str := Str.ofString ": "
theorem cm2_len : cm2.length = 2 := by decide +kernel
theorem cl2_len : cl2.length = 2 := by decide +kernel
abbrev clN : Nm := ⟨": ", by decide +kernel⟩
def nmJnD (l : List Nm) : Nm := nmOf (Txt.join cm2 (l.map (·.1)))
theorem jnD_cs (l : List Nm) : cs (Txt.join cm2 (l.map (·.1))) = joinL [44, 32] (l.map fun x => cs x.1) := by
  rw [join_eq]
  have h := tl_join cm2 (l.map (·.1))
  have e0 : tl cm2 = [44, 32] := by decide +kernel
  rw [e0, List.map_map] at h
  exact h
theorem joinD_mem : ∀ l : List (List Nat), ∀ c ∈ joinL [44, 32] l, c = 44 ∨ c = 32 ∨ ∃ x ∈ l, c ∈ x
  | [], _, h => by cases h
  | [x], c, h => by
    simp only [joinL] at h
    exact .inr (.inr ⟨x, List.mem_singleton_self _, h⟩)
  | x :: y :: l, c, h => by
    rw [show joinL [44, 32] (x :: y :: l) = x ++ ([44, 32] ++ joinL [44, 32] (y :: l)) from rfl] at h
    rcases List.mem_append.mp h with h | h
    · exact .inr (.inr ⟨x, List.mem_cons_self, h⟩)
    rcases List.mem_append.mp h with h | h
    · simp at h
      rcases h with h | h
      · exact .inl h
      · exact .inr (.inl h)
    · rcases joinD_mem (y :: l) c h with h | h | ⟨z, hz, h⟩
      · exact .inl h
      · exact .inr (.inl h)
      · exact .inr (.inr ⟨z, List.mem_cons_of_mem _ hz, h⟩)
theorem joinD_len : ∀ l : List (List Nat), (joinL [44, 32] l).length ≤ (l.map List.length).sum + 2 * l.length
  | [] => Nat.zero_le _
  | [x] => by simp [joinL]
  | x :: y :: l => by
    rw [show joinL [44, 32] (x :: y :: l) = x ++ ([44, 32] ++ joinL [44, 32] (y :: l)) from rfl]
    have := joinD_len (y :: l)
    simp only [List.length_append, List.map_cons, List.sum_cons, List.length_cons, List.length_nil] at this ⊢
    omega
theorem jnD_nm {l : List Nm} (h : (l.map fun v : Nm => v.1.length).sum + 2 * l.length ≤ 1000) : (nmJnD l).1 = Txt.join cm2 (l.map (·.1)) := by
  refine nmOf_eq (OkS_of fun c hc => ?_) ?_
  · rw [jnD_cs] at hc
    rcases joinD_mem _ c hc with rfl | rfl | ⟨z, hz, h⟩
    · decide
    · decide
    · obtain ⟨y, hy, rfl⟩ := List.mem_map.mp hz
      exact cs_lt y c h
  · rw [cs_len, jnD_cs]
    refine Nat.le_trans (joinD_len _) ?_
    rw [List.map_map, List.length_map]
    refine Nat.le_trans (Nat.le_of_eq ?_) h
    congr 2
section
variable {X : Cx} {S : Sg} {Γ : Gm} {μ : Mem} {Q : QD} {a b : Expr} {pos : Pos}
theorem ev_lessQ {e : Expr} (h : EvG X S e Γ μ fun d μ1 => ∃ μ2, List.Sublist μ2 μ1 ∧ Q d μ2) : EvG X S e Γ μ Q := fun F N σ H r rs => (h F N σ H r rs).mono fun v H' ⟨d, μ1, r1, rd, μ2, s, q⟩ => ⟨d, μ2, r1.drop s, rd.ext (sub_vis s), q⟩
theorem mt_joinD (l : List Nm) (h : (l.map fun v : Nm => v.1.length).sum + 2 * l.length ≤ 1000) (k : Q (rp (nmJnD l)) μ) : MtG X S "str.join" (.str (Str.ofString ", ")) [rp l] μ Q := by
  refine mt_join (xs := l.map (·.1)) (by rw [List.map_map]; rfl) ?_ ?_
  · rw [List.map_map, List.length_map, show (Str.ofString ", ").length = 2 from cm2_len]
    have e : (l.map ((fun x => x.length) ∘ fun x : Nm => x.1)).sum = (l.map fun v : Nm => v.1.length).sum := rfl
    rw [e]
    omega
  · have : rp (nmJnD l) = .str (Txt.join (Str.ofString ", ") (l.map (·.1))) := congrArg D.str (jnD_nm h)
    rw [← this]
    exact k
theorem mt_joinM {z : Str} {xs : List Str} {c : Addr} (hc : (c, M.lst (xs.map D.str)) ∈ μ) (hz : (xs.map (·.length)).sum + xs.length * z.length ≤ 16777216) (k : Q (.str (Txt.join z xs)) μ) : MtG X S "str.join" (.str z) [.ref c] μ Q := by
  intro F N H v vs r rv rq
  cases rv
  obtain ⟨w, rfl, rw'⟩ := rq.one
  cases rw'
  obtain ⟨o, ho, ro⟩ := r.mem _ hc
  cases ro with
  | @lst _ ys hs =>
  have hy : ∀ {xs : List Str} {ys : List V}, RpA S.toSg0 (vis N H (adr μ)) ys (xs.map D.str) → ys = xs.map V.str := by
    intro xs
    induction xs with
    | nil => intro ys h; cases h; rfl
    | cons x xs ih =>
      intro ys h
      cases h with
      | cons h t =>
      cases h
      rw [ih t]
      rfl
  have e := hy hs
  subst e
  exact ⟨_, L2.mt_join, _, ⟨z, c, xs, rfl, rfl, .inl (SqL.of ho), hz, _, μ, r, .str _, k⟩, fun _ _ q => q⟩
theorem mt_joinDm (l : List Nm) {c : Addr} (hc : (c, M.lst (l.map rp)) ∈ μ) (h : (l.map fun v : Nm => v.1.length).sum + 2 * l.length ≤ 1000) (k : Q (rp (nmJnD l)) μ) : MtG X S "str.join" (.str (Str.ofString ", ")) [.ref c] μ Q := by
  refine mt_joinM (xs := l.map (·.1)) (c := c) (by rw [List.map_map]; exact hc) ?_ ?_
  · rw [List.map_map, List.length_map, show (Str.ofString ", ").length = 2 from cm2_len]
    have e : (l.map ((fun x => x.length) ∘ fun x : Nm => x.1)).sum = (l.map fun v : Nm => v.1.length).sum := rfl
    rw [e]
    omega
  · have : rp (nmJnD l) = .str (Txt.join (Str.ofString ", ") (l.map (·.1))) := congrArg D.str (jnD_nm h)
    rw [← this]
    exact k
theorem ev_rowS {p1 p2 p3 : Pos} {j : Nat}
    (h : EvG X S a Γ μ fun d1 μ1 => ∃ x : Nm, d1 = rp x ∧ EvG X S b Γ μ1 fun d2 μ2 => ∃ y : Nm, d2 = rp y ∧ x.1.length + y.1.length ≤ 900 ∧ Q (rp (nmApp (nmApp x clN) y)) μ2) :
    EvG X S (.JoinedStr [.FormattedValue a (-1) none p1, .Constant (.str (Str.ofString ": ")) j p2, .FormattedValue b (-1) none p3] pos) Γ μ Q := fun F N σ H r rs => by
  refine ex_of (pe_joined (.cons (pe_fmt pe_ex) (.cons pe_str (.cons (pe_fmt pe_ex) .nil)))) ?_
  refine h.use r rs fun v1 H1 d1 μ1 r1 rs1 rd1 ⟨x, e1, hb⟩ => ?_
  subst e1
  cases rd1
  have lx := x.2.2
  have b1 : (Str.empty ++ x.1).length ≤ 1000 := by rw [Str.empty_append]; exact lx
  have l1 : cl2.length ≤ 2 := Nat.le_of_eq cl2_len
  have b2 : (Str.empty ++ x.1 ++ cl2).length ≤ 1002 := by rw [str_app_len]; omega
  refine .inl ⟨x.1, rfl, L2.sz_ok (Nat.le_trans x.2.2 (by decide)), _, rfl, L2.sz_ok (Nat.le_trans b1 (by decide)), ⟨_, rfl, L2.sz_ok (Nat.le_trans b2 (by decide)), ?_⟩⟩
  refine hb.use r1 rs1 fun v2 H2 d2 μ2 r2 rs2 rd2 ⟨y, e2, hz, q⟩ => ?_
  subst e2
  cases rd2
  have ly := y.2.2
  have b3 : (Str.empty ++ x.1 ++ cl2 ++ y.1).length ≤ 2025 := by rw [str_app_len]; omega
  refine .inl ⟨y.1, rfl, L2.sz_ok (Nat.le_trans y.2.2 (by decide)), _, rfl, L2.sz_ok (Nat.le_trans b3 (by decide)), _, μ2, r2.weakF (r.ext.trans r1.ext), .str _, ?_⟩
  have h1 : x.1.length + clN.1.length ≤ 1000 := by rw [show clN.1.length = 2 from cl2_len]; omega
  have e1 : (nmApp x clN).1 = x.1 ++ cl2 := by unfold nmApp; rw [dif_pos h1]; rfl
  have h2 : (nmApp x clN).1.length + y.1.length ≤ 1000 := by rw [e1, str_app_len, cl2_len]; omega
  have e : (rp (nmApp (nmApp x clN) y) : D) = .str (Str.empty ++ x.1 ++ cl2 ++ y.1) := by
    refine congrArg D.str ?_
    rw [Str.empty_append, ← e1]
    show (nmApp (nmApp x clN) y).1 = _
    unfold nmApp
    rw [dif_pos h1]
    rw [dif_pos (by have := h2; unfold nmApp at this; rw [dif_pos h1] at this; exact this)]
  rw [e] at q
  exact q
end
end GL
namespace K08
open PySem L2 GL
structure Ad where
  C_Steps : Addr
  C_Doors : Addr
  C_Part : Addr
  C_Single : Addr
  C_Many : Addr
  C_Repeated : Addr
  C_Unknown : Addr
  C_NoStep : Addr
  f_Repeated_init : Addr
  fd_Repeated_init : FuncData
  cda_Repeated_init : Addr
  cc_Repeated_init : Addr
  f_Unknown_init : Addr
  fd_Unknown_init : FuncData
  cda_Unknown_init : Addr
  cc_Unknown_init : Addr
  f_NoStep_init : Addr
  fd_NoStep_init : FuncData
  cda_NoStep_init : Addr
  cc_NoStep_init : Addr
  f_Single_row : Addr
  fd_Single_row : FuncData
  cda_Single_row : Addr
  cc_Single_row : Addr
  f_Many_row : Addr
  fd_Many_row : FuncData
  cda_Many_row : Addr
  cc_Many_row : Addr
  f_Steps_init : Addr
  fd_Steps_init : FuncData
  f_Steps_standings : Addr
  fd_Steps_standings : FuncData
  f_Steps_allow : Addr
  fd_Steps_allow : FuncData
  f_Steps_steps_from : Addr
  fd_Steps_steps_from : FuncData
  f_Doors_init : Addr
  fd_Doors_init : FuncData
  f_Doors_iter : Addr
  fd_Doors_iter : FuncData
  f_Doors_getitem : Addr
  fd_Doors_getitem : FuncData
  f_Doors_setitem : Addr
  fd_Doors_setitem : FuncData
  f_without_repeats : Addr
  fd_without_repeats : FuncData
  f_Part_init : Addr
  fd_Part_init : FuncData
  f_Part_row : Addr
  fd_Part_row : FuncData
  f_Part_filled : Addr
  fd_Part_filled : FuncData
  f_Single_twin : Addr
  fd_Single_twin : FuncData
  f_Many_twin : Addr
  fd_Many_twin : FuncData
  f_law_pool : Addr
  fd_law_pool : FuncData
  f_law_take : Addr
  fd_law_take : FuncData
  f_law_base : Addr
  fd_law_base : FuncData
  f_law_name : Addr
  fd_law_name : FuncData
  f_law_some : Addr
  fd_law_some : FuncData
  f_law_told : Addr
  fd_law_told : FuncData
  f_law_filled : Addr
  fd_law_filled : FuncData
  f_law_apart : Addr
  fd_law_apart : FuncData
  f_law : Addr
  fd_law : FuncData
structure Tx (P : Program) (K : PySem.W.Frag) (mg : Str → Option Value) (a : Ad) : Prop where
  cl_Steps : Cls K a.C_Steps
  is_Steps : IsC K a.C_Steps
  mk_Steps : Mk K a.C_Steps a.f_Steps_init
  mgC_Steps : mg "Steps" = some (.ref a.C_Steps)
  sf_Steps : PySem.W.selfFirst K a.C_Steps = true
  nf_Steps : PySem.W.notFirst K a.C_Steps (.ref a.C_Steps) = true
  nfl_Steps : PySem.W.notFirst K a.C_Steps (.type "list") = true
  ki_Steps : PySem.W.kitOne K (.ref a.C_Steps) (.ref a.C_Steps) = some true
  kl_Steps : PySem.W.kitOne K (.type "list") (.ref a.C_Steps) = some false
  kx_Single_Steps : PySem.W.kitOne K (.ref a.C_Single) (.ref a.C_Steps) = some true
  kx_Many_Steps : PySem.W.kitOne K (.ref a.C_Many) (.ref a.C_Steps) = some true
  na_Steps_order : NoAttr K a.C_Steps "order"
  na_Steps_leads : NoAttr K a.C_Steps "leads"
  cl_Doors : Cls K a.C_Doors
  is_Doors : IsC K a.C_Doors
  mk_Doors : Mk K a.C_Doors a.f_Doors_init
  mgC_Doors : mg "Doors" = some (.ref a.C_Doors)
  sf_Doors : PySem.W.selfFirst K a.C_Doors = true
  nf_Doors : PySem.W.notFirst K a.C_Doors (.ref a.C_Doors) = true
  nfl_Doors : PySem.W.notFirst K a.C_Doors (.type "list") = true
  ki_Doors : PySem.W.kitOne K (.ref a.C_Doors) (.ref a.C_Doors) = some true
  kl_Doors : PySem.W.kitOne K (.type "list") (.ref a.C_Doors) = some false
  kx_Single_Doors : PySem.W.kitOne K (.ref a.C_Single) (.ref a.C_Doors) = some true
  kx_Many_Doors : PySem.W.kitOne K (.ref a.C_Many) (.ref a.C_Doors) = some true
  na_Doors_rows : NoAttr K a.C_Doors "rows"
  na_Doors_doors : NoAttr K a.C_Doors "doors"
  nq_Doors : PySem.W.noSeq K a.C_Doors = true
  cl_Part : Cls K a.C_Part
  is_Part : IsC K a.C_Part
  mk_Part : Mk K a.C_Part a.f_Part_init
  mgC_Part : mg "Part" = some (.ref a.C_Part)
  sf_Part : PySem.W.selfFirst K a.C_Part = true
  nf_Part : PySem.W.notFirst K a.C_Part (.ref a.C_Part) = true
  nfl_Part : PySem.W.notFirst K a.C_Part (.type "list") = true
  ki_Part : PySem.W.kitOne K (.ref a.C_Part) (.ref a.C_Part) = some true
  kl_Part : PySem.W.kitOne K (.type "list") (.ref a.C_Part) = some false
  kx_Single_Part : PySem.W.kitOne K (.ref a.C_Single) (.ref a.C_Part) = some true
  kx_Many_Part : PySem.W.kitOne K (.ref a.C_Many) (.ref a.C_Part) = some true
  na_Part_rows : NoAttr K a.C_Part "rows"
  na_Part_doors : NoAttr K a.C_Part "doors"
  na_Part_order : NoAttr K a.C_Part "order"
  na_Part_leads : NoAttr K a.C_Part "leads"
  na_Part_name : NoAttr K a.C_Part "name"
  nq_Part : PySem.W.noSeq K a.C_Part = true
  cl_Single : Cls K a.C_Single
  is_Single : IsC K a.C_Single
  mk_Single : Mk K a.C_Single a.f_Part_init
  mgC_Single : mg "Single" = some (.ref a.C_Single)
  sf_Single : PySem.W.selfFirst K a.C_Single = true
  nf_Single : PySem.W.notFirst K a.C_Single (.ref a.C_Single) = true
  nfl_Single : PySem.W.notFirst K a.C_Single (.type "list") = true
  ki_Single : PySem.W.kitOne K (.ref a.C_Single) (.ref a.C_Single) = some true
  kl_Single : PySem.W.kitOne K (.type "list") (.ref a.C_Single) = some false
  kx_Many_Single : PySem.W.kitOne K (.ref a.C_Many) (.ref a.C_Single) = some false
  na_Single_rows : NoAttr K a.C_Single "rows"
  na_Single_doors : NoAttr K a.C_Single "doors"
  na_Single_order : NoAttr K a.C_Single "order"
  na_Single_leads : NoAttr K a.C_Single "leads"
  na_Single_name : NoAttr K a.C_Single "name"
  nq_Single : PySem.W.noSeq K a.C_Single = true
  cl_Many : Cls K a.C_Many
  is_Many : IsC K a.C_Many
  mk_Many : Mk K a.C_Many a.f_Part_init
  mgC_Many : mg "Many" = some (.ref a.C_Many)
  sf_Many : PySem.W.selfFirst K a.C_Many = true
  nf_Many : PySem.W.notFirst K a.C_Many (.ref a.C_Many) = true
  nfl_Many : PySem.W.notFirst K a.C_Many (.type "list") = true
  ki_Many : PySem.W.kitOne K (.ref a.C_Many) (.ref a.C_Many) = some true
  kl_Many : PySem.W.kitOne K (.type "list") (.ref a.C_Many) = some false
  kx_Single_Many : PySem.W.kitOne K (.ref a.C_Single) (.ref a.C_Many) = some false
  na_Many_rows : NoAttr K a.C_Many "rows"
  na_Many_doors : NoAttr K a.C_Many "doors"
  na_Many_order : NoAttr K a.C_Many "order"
  na_Many_leads : NoAttr K a.C_Many "leads"
  na_Many_name : NoAttr K a.C_Many "name"
  nq_Many : PySem.W.noSeq K a.C_Many = true
  ec_Repeated : ExcCls K a.C_Repeated
  mgC_Repeated : mg "Repeated" = some (.ref a.C_Repeated)
  xf_Repeated : XfC K a.C_Repeated
  na_Repeated_name : PySem.W.findIn K (.ref a.C_Repeated) "name" = some none
  ec_Unknown : ExcCls K a.C_Unknown
  mgC_Unknown : mg "Unknown" = some (.ref a.C_Unknown)
  xf_Unknown : XfC K a.C_Unknown
  na_Unknown_name : PySem.W.findIn K (.ref a.C_Unknown) "name" = some none
  ec_NoStep : ExcCls K a.C_NoStep
  mgC_NoStep : mg "NoStep" = some (.ref a.C_NoStep)
  xf_NoStep : XfC K a.C_NoStep
  na_NoStep_before : PySem.W.findIn K (.ref a.C_NoStep) "before" = some none
  na_NoStep_after : PySem.W.findIn K (.ref a.C_NoStep) "after" = some none
  F_Repeated_init : FunS P K "__init__" "Repeated.__init__" (defArgs s_Repeated_init) (defBody s_Repeated_init) (defScope s_Repeated_init) a.f_Repeated_init a.fd_Repeated_init a.C_Repeated a.cda_Repeated_init a.cc_Repeated_init
  b_Repeated_init : Binds K a.fd_Repeated_init ["self", "name"] []
  at_Repeated_init : PySem.W.findIn K (.ref a.C_Repeated) "__init__" = some (some (.ref a.f_Repeated_init))
  ti_Repeated_init : PySem.W.typeIn K (.ref a.f_Repeated_init) = some (.type "function")
  F_Unknown_init : FunS P K "__init__" "Unknown.__init__" (defArgs s_Unknown_init) (defBody s_Unknown_init) (defScope s_Unknown_init) a.f_Unknown_init a.fd_Unknown_init a.C_Unknown a.cda_Unknown_init a.cc_Unknown_init
  b_Unknown_init : Binds K a.fd_Unknown_init ["self", "name"] []
  at_Unknown_init : PySem.W.findIn K (.ref a.C_Unknown) "__init__" = some (some (.ref a.f_Unknown_init))
  ti_Unknown_init : PySem.W.typeIn K (.ref a.f_Unknown_init) = some (.type "function")
  F_NoStep_init : FunS P K "__init__" "NoStep.__init__" (defArgs s_NoStep_init) (defBody s_NoStep_init) (defScope s_NoStep_init) a.f_NoStep_init a.fd_NoStep_init a.C_NoStep a.cda_NoStep_init a.cc_NoStep_init
  b_NoStep_init : Binds K a.fd_NoStep_init ["self", "before", "after"] []
  at_NoStep_init : PySem.W.findIn K (.ref a.C_NoStep) "__init__" = some (some (.ref a.f_NoStep_init))
  ti_NoStep_init : PySem.W.typeIn K (.ref a.f_NoStep_init) = some (.type "function")
  F_Single_row : FunS P K "row" "Single.row" (defArgs s_Single_row) (defBody s_Single_row) (defScope s_Single_row) a.f_Single_row a.fd_Single_row a.C_Single a.cda_Single_row a.cc_Single_row
  b_Single_row : Binds K a.fd_Single_row ["self"] []
  at_Single_row : PySem.W.findIn K (.ref a.C_Single) "row" = some (some (.ref a.f_Single_row))
  ti_Single_row : PySem.W.typeIn K (.ref a.f_Single_row) = some (.type "function")
  F_Many_row : FunS P K "row" "Many.row" (defArgs s_Many_row) (defBody s_Many_row) (defScope s_Many_row) a.f_Many_row a.fd_Many_row a.C_Many a.cda_Many_row a.cc_Many_row
  b_Many_row : Binds K a.fd_Many_row ["self"] []
  at_Many_row : PySem.W.findIn K (.ref a.C_Many) "row" = some (some (.ref a.f_Many_row))
  ti_Many_row : PySem.W.typeIn K (.ref a.f_Many_row) = some (.type "function")
  su_Single_row : SupC K a.C_Single a.C_Single "row" a.f_Part_row
  me_Single_row : Meth K a.C_Single "row" a.f_Single_row
  su_Many_row : SupC K a.C_Many a.C_Many "row" a.f_Part_row
  me_Many_row : Meth K a.C_Many "row" a.f_Many_row
  F_Steps_init : FunD K "__init__" "Steps.__init__" (defArgs s_Steps_init) (defBody s_Steps_init) (defScope s_Steps_init) [] [] a.f_Steps_init a.fd_Steps_init
  b_Steps_init : Binds K a.fd_Steps_init ["self", "standings"] []
  at_Steps_init : PySem.W.findIn K (.ref a.C_Steps) "__init__" = some (some (.ref a.f_Steps_init))
  fn_Steps_init : PySem.W.isFn K (.ref a.f_Steps_init) = true
  F_Steps_standings : FunD K "standings" "Steps.standings" (defArgs s_Steps_standings) (defBody s_Steps_standings) (defScope s_Steps_standings) [] [] a.f_Steps_standings a.fd_Steps_standings
  b_Steps_standings : Binds K a.fd_Steps_standings ["self"] []
  at_Steps_standings : PySem.W.findIn K (.ref a.C_Steps) "standings" = some (some (.ref a.f_Steps_standings))
  fn_Steps_standings : PySem.W.isFn K (.ref a.f_Steps_standings) = true
  F_Steps_allow : FunD K "allow" "Steps.allow" (defArgs s_Steps_allow) (defBody s_Steps_allow) (defScope s_Steps_allow) [] [] a.f_Steps_allow a.fd_Steps_allow
  b_Steps_allow : Binds K a.fd_Steps_allow ["self", "before", "after"] []
  at_Steps_allow : PySem.W.findIn K (.ref a.C_Steps) "allow" = some (some (.ref a.f_Steps_allow))
  fn_Steps_allow : PySem.W.isFn K (.ref a.f_Steps_allow) = true
  F_Steps_steps_from : FunD K "steps_from" "Steps.steps_from" (defArgs s_Steps_steps_from) (defBody s_Steps_steps_from) (defScope s_Steps_steps_from) [] [] a.f_Steps_steps_from a.fd_Steps_steps_from
  b_Steps_steps_from : Binds K a.fd_Steps_steps_from ["self", "standing"] []
  at_Steps_steps_from : PySem.W.findIn K (.ref a.C_Steps) "steps_from" = some (some (.ref a.f_Steps_steps_from))
  fn_Steps_steps_from : PySem.W.isFn K (.ref a.f_Steps_steps_from) = true
  F_Doors_init : FunD K "__init__" "Doors.__init__" (defArgs s_Doors_init) (defBody s_Doors_init) (defScope s_Doors_init) [] [] a.f_Doors_init a.fd_Doors_init
  b_Doors_init : Binds K a.fd_Doors_init ["self", "standings"] []
  at_Doors_init : PySem.W.findIn K (.ref a.C_Doors) "__init__" = some (some (.ref a.f_Doors_init))
  fn_Doors_init : PySem.W.isFn K (.ref a.f_Doors_init) = true
  F_Doors_iter : FunD K "__iter__" "Doors.__iter__" (defArgs s_Doors_iter) (defBody s_Doors_iter) (defScope s_Doors_iter) [] [] a.f_Doors_iter a.fd_Doors_iter
  b_Doors_iter : Binds K a.fd_Doors_iter ["self"] []
  at_Doors_iter : PySem.W.findIn K (.ref a.C_Doors) "__iter__" = some (some (.ref a.f_Doors_iter))
  fn_Doors_iter : PySem.W.isFn K (.ref a.f_Doors_iter) = true
  F_Doors_getitem : FunD K "__getitem__" "Doors.__getitem__" (defArgs s_Doors_getitem) (defBody s_Doors_getitem) (defScope s_Doors_getitem) [] [] a.f_Doors_getitem a.fd_Doors_getitem
  b_Doors_getitem : Binds K a.fd_Doors_getitem ["self", "standing"] []
  at_Doors_getitem : PySem.W.findIn K (.ref a.C_Doors) "__getitem__" = some (some (.ref a.f_Doors_getitem))
  fn_Doors_getitem : PySem.W.isFn K (.ref a.f_Doors_getitem) = true
  fi_Doors_getitem : PySem.W.fnIn K a.f_Doors_getitem = true
  F_Doors_setitem : FunD K "__setitem__" "Doors.__setitem__" (defArgs s_Doors_setitem) (defBody s_Doors_setitem) (defScope s_Doors_setitem) [] [] a.f_Doors_setitem a.fd_Doors_setitem
  b_Doors_setitem : Binds K a.fd_Doors_setitem ["self", "standing", "worth"] []
  at_Doors_setitem : PySem.W.findIn K (.ref a.C_Doors) "__setitem__" = some (some (.ref a.f_Doors_setitem))
  fn_Doors_setitem : PySem.W.isFn K (.ref a.f_Doors_setitem) = true
  F_without_repeats : FunD K "without_repeats" "without_repeats" (defArgs s_without_repeats) (defBody s_without_repeats) (defScope s_without_repeats) [] [] a.f_without_repeats a.fd_without_repeats
  b_without_repeats : Binds K a.fd_without_repeats ["names"] []
  mg_without_repeats : mg "without_repeats" = some (.ref a.f_without_repeats)
  F_Part_init : FunD K "__init__" "Part.__init__" (defArgs s_Part_init) (defBody s_Part_init) (defScope s_Part_init) [] [] a.f_Part_init a.fd_Part_init
  b_Part_init : Binds K a.fd_Part_init ["self", "name", "standings"] []
  at_Part_init : PySem.W.findIn K (.ref a.C_Part) "__init__" = some (some (.ref a.f_Part_init))
  fn_Part_init : PySem.W.isFn K (.ref a.f_Part_init) = true
  F_Part_row : FunD K "row" "Part.row" (defArgs s_Part_row) (defBody s_Part_row) (defScope s_Part_row) [] [] a.f_Part_row a.fd_Part_row
  b_Part_row : Binds K a.fd_Part_row ["self"] []
  at_Part_row : PySem.W.findIn K (.ref a.C_Part) "row" = some (some (.ref a.f_Part_row))
  fn_Part_row : PySem.W.isFn K (.ref a.f_Part_row) = true
  F_Part_filled : FunD K "filled" "Part.filled" (defArgs s_Part_filled) (defBody s_Part_filled) (defScope s_Part_filled) [] [] a.f_Part_filled a.fd_Part_filled
  b_Part_filled : Binds K a.fd_Part_filled ["self", "other"] []
  at_Part_filled : PySem.W.findIn K (.ref a.C_Part) "filled" = some (some (.ref a.f_Part_filled))
  fn_Part_filled : PySem.W.isFn K (.ref a.f_Part_filled) = true
  F_Single_twin : FunD K "twin" "Single.twin" (defArgs s_Single_twin) (defBody s_Single_twin) (defScope s_Single_twin) [] [] a.f_Single_twin a.fd_Single_twin
  b_Single_twin : Binds K a.fd_Single_twin ["self"] []
  at_Single_twin : PySem.W.findIn K (.ref a.C_Single) "twin" = some (some (.ref a.f_Single_twin))
  fn_Single_twin : PySem.W.isFn K (.ref a.f_Single_twin) = true
  F_Many_twin : FunD K "twin" "Many.twin" (defArgs s_Many_twin) (defBody s_Many_twin) (defScope s_Many_twin) [] [] a.f_Many_twin a.fd_Many_twin
  b_Many_twin : Binds K a.fd_Many_twin ["self"] []
  at_Many_twin : PySem.W.findIn K (.ref a.C_Many) "twin" = some (some (.ref a.f_Many_twin))
  fn_Many_twin : PySem.W.isFn K (.ref a.f_Many_twin) = true
  F_law_pool : FunD K "_law_pool" "_law_pool" (defArgs s_law_pool) (defBody s_law_pool) (defScope s_law_pool) [] [] a.f_law_pool a.fd_law_pool
  b_law_pool : Binds K a.fd_law_pool ["_law_script"] []
  mg_law_pool : mg "_law_pool" = some (.ref a.f_law_pool)
  F_law_take : FunD K "_law_take" "_law_take" (defArgs s_law_take) (defBody s_law_take) (defScope s_law_take) [] [] a.f_law_take a.fd_law_take
  b_law_take : Binds K a.fd_law_take ["_law_pool_here", "_law_size"] []
  mg_law_take : mg "_law_take" = some (.ref a.f_law_take)
  F_law_base : FunD K "_law_base" "_law_base" (defArgs s_law_base) (defBody s_law_base) (defScope s_law_base) [] [] a.f_law_base a.fd_law_base
  b_law_base : Binds K a.fd_law_base ["_law_pool_here"] []
  mg_law_base : mg "_law_base" = some (.ref a.f_law_base)
  F_law_name : FunD K "_law_name" "_law_name" (defArgs s_law_name) (defBody s_law_name) (defScope s_law_name) [] [] a.f_law_name a.fd_law_name
  b_law_name : Binds K a.fd_law_name ["_law_pool_here", "_law_base_here", "_law_k"] []
  mg_law_name : mg "_law_name" = some (.ref a.f_law_name)
  F_law_some : FunD K "_law_some" "_law_some" (defArgs s_law_some) (defBody s_law_some) (defScope s_law_some) [] [] a.f_law_some a.fd_law_some
  b_law_some : Binds K a.fd_law_some ["_law_pool_here", "_law_rows", "_law_most"] []
  mg_law_some : mg "_law_some" = some (.ref a.f_law_some)
  F_law_told : FunD K "_law_told" "_law_told" (defArgs s_law_told) (defBody s_law_told) (defScope s_law_told) [] [] a.f_law_told a.fd_law_told
  b_law_told : Binds K a.fd_law_told ["_law_part", "_law_single"] []
  mg_law_told : mg "_law_told" = some (.ref a.f_law_told)
  F_law_filled : FunD K "_law_filled" "_law_filled" (defArgs s_law_filled) (defBody s_law_filled) (defScope s_law_filled) [] [] a.f_law_filled a.fd_law_filled
  b_law_filled : Binds K a.fd_law_filled ["_law_pool_here", "_law_kind", "_law_standings", "_law_doors"] []
  mg_law_filled : mg "_law_filled" = some (.ref a.f_law_filled)
  F_law_apart : FunD K "_law_apart" "_law_apart" (defArgs s_law_apart) (defBody s_law_apart) (defScope s_law_apart) [] [] a.f_law_apart a.fd_law_apart
  b_law_apart : Binds K a.fd_law_apart ["_law_changed", "_law_other", "_law_single", "_law_due", "_law_strange"] []
  mg_law_apart : mg "_law_apart" = some (.ref a.f_law_apart)
  F_law : FunD K "law" "law" (defArgs s_law) (defBody s_law) (defScope s_law) [] [] a.f_law a.fd_law
  b_law : Binds K a.fd_law ["_law_script"] []
  mg_law : mg "law" = some (.ref a.f_law)
  at_Part_standings : PySem.W.findIn K (.ref a.C_Part) "standings" = some (some (.ref a.f_Steps_standings))
  at_Part_allow : PySem.W.findIn K (.ref a.C_Part) "allow" = some (some (.ref a.f_Steps_allow))
  at_Part_steps_from : PySem.W.findIn K (.ref a.C_Part) "steps_from" = some (some (.ref a.f_Steps_steps_from))
  at_Part_iter : PySem.W.findIn K (.ref a.C_Part) "__iter__" = some (some (.ref a.f_Doors_iter))
  at_Part_getitem : PySem.W.findIn K (.ref a.C_Part) "__getitem__" = some (some (.ref a.f_Doors_getitem))
  at_Part_setitem : PySem.W.findIn K (.ref a.C_Part) "__setitem__" = some (some (.ref a.f_Doors_setitem))
  at_Single_init : PySem.W.findIn K (.ref a.C_Single) "__init__" = some (some (.ref a.f_Part_init))
  at_Single_filled : PySem.W.findIn K (.ref a.C_Single) "filled" = some (some (.ref a.f_Part_filled))
  at_Single_standings : PySem.W.findIn K (.ref a.C_Single) "standings" = some (some (.ref a.f_Steps_standings))
  at_Single_allow : PySem.W.findIn K (.ref a.C_Single) "allow" = some (some (.ref a.f_Steps_allow))
  at_Single_steps_from : PySem.W.findIn K (.ref a.C_Single) "steps_from" = some (some (.ref a.f_Steps_steps_from))
  at_Single_iter : PySem.W.findIn K (.ref a.C_Single) "__iter__" = some (some (.ref a.f_Doors_iter))
  at_Single_getitem : PySem.W.findIn K (.ref a.C_Single) "__getitem__" = some (some (.ref a.f_Doors_getitem))
  at_Single_setitem : PySem.W.findIn K (.ref a.C_Single) "__setitem__" = some (some (.ref a.f_Doors_setitem))
  at_Many_init : PySem.W.findIn K (.ref a.C_Many) "__init__" = some (some (.ref a.f_Part_init))
  at_Many_filled : PySem.W.findIn K (.ref a.C_Many) "filled" = some (some (.ref a.f_Part_filled))
  at_Many_standings : PySem.W.findIn K (.ref a.C_Many) "standings" = some (some (.ref a.f_Steps_standings))
  at_Many_allow : PySem.W.findIn K (.ref a.C_Many) "allow" = some (some (.ref a.f_Steps_allow))
  at_Many_steps_from : PySem.W.findIn K (.ref a.C_Many) "steps_from" = some (some (.ref a.f_Steps_steps_from))
  at_Many_iter : PySem.W.findIn K (.ref a.C_Many) "__iter__" = some (some (.ref a.f_Doors_iter))
  at_Many_getitem : PySem.W.findIn K (.ref a.C_Many) "__getitem__" = some (some (.ref a.f_Doors_getitem))
  at_Many_setitem : PySem.W.findIn K (.ref a.C_Many) "__setitem__" = some (some (.ref a.f_Doors_setitem))
  of_Steps_init : ClX.CVal K a.C_Steps (.type "type") "__init__" (.ref a.f_Steps_init) (.ref a.f_Steps_init)
  cd_Steps : ClX.CRead K a.C_Steps (.type "type")
  of_Doors_init : ClX.CVal K a.C_Doors (.type "type") "__init__" (.ref a.f_Doors_init) (.ref a.f_Doors_init)
  cd_Doors : ClX.CRead K a.C_Doors (.type "type")
  z_len : mg "len" = none
  z_list : mg "list" = none
  z_tuple : mg "tuple" = none
  z_int : mg "int" = none
  z_range : mg "range" = none
  z_isinstance : mg "isinstance" = none
  z_iter : mg "iter" = none
  z_super : mg "super" = none
  z_ValueError : mg "ValueError" = none
abbrev N_Steps_init : List Str := ["self", "standings", "standing"]
theorem sc_Steps_init : FnScope ["self", "standings", "standing"] ["self", "standings"] (defScope s_Steps_init) := ⟨rfl, rfl, rfl, by decide +kernel, rfl, by decide +kernel, by decide +kernel⟩
abbrev N_Steps_standings : List Str := ["self"]
theorem sc_Steps_standings : FnScope ["self"] ["self"] (defScope s_Steps_standings) := ⟨rfl, rfl, rfl, by decide +kernel, rfl, by decide +kernel, by decide +kernel⟩
abbrev N_Steps_allow : List Str := ["self", "before", "after", "standing"]
theorem sc_Steps_allow : FnScope ["self", "before", "after", "standing"] ["self", "before", "after"] (defScope s_Steps_allow) := ⟨rfl, rfl, rfl, by decide +kernel, rfl, by decide +kernel, by decide +kernel⟩
abbrev N_Steps_steps_from : List Str := ["self", "standing", "after"]
theorem sc_Steps_steps_from : FnScope ["self", "standing", "after"] ["self", "standing"] (defScope s_Steps_steps_from) := ⟨rfl, rfl, rfl, by decide +kernel, rfl, by decide +kernel, by decide +kernel⟩
abbrev N_Doors_init : List Str := ["self", "standings", "standing"]
theorem sc_Doors_init : FnScope ["self", "standings", "standing"] ["self", "standings"] (defScope s_Doors_init) := ⟨rfl, rfl, rfl, by decide +kernel, rfl, by decide +kernel, by decide +kernel⟩
abbrev N_Doors_iter : List Str := ["self"]
theorem sc_Doors_iter : FnScope ["self"] ["self"] (defScope s_Doors_iter) := ⟨rfl, rfl, rfl, by decide +kernel, rfl, by decide +kernel, by decide +kernel⟩
abbrev N_Doors_getitem : List Str := ["self", "standing"]
theorem sc_Doors_getitem : FnScope ["self", "standing"] ["self", "standing"] (defScope s_Doors_getitem) := ⟨rfl, rfl, rfl, by decide +kernel, rfl, by decide +kernel, by decide +kernel⟩
abbrev N_Doors_setitem : List Str := ["self", "standing", "worth", "needs", "gives"]
theorem sc_Doors_setitem : FnScope ["self", "standing", "worth", "needs", "gives"] ["self", "standing", "worth"] (defScope s_Doors_setitem) := ⟨rfl, rfl, rfl, by decide +kernel, rfl, by decide +kernel, by decide +kernel⟩
abbrev N_without_repeats : List Str := ["names", "found", "name"]
theorem sc_without_repeats : FnScope ["names", "found", "name"] ["names"] (defScope s_without_repeats) := ⟨rfl, rfl, rfl, by decide +kernel, rfl, by decide +kernel, by decide +kernel⟩
abbrev N_Part_init : List Str := ["self", "name", "standings"]
theorem sc_Part_init : FnScope ["self", "name", "standings"] ["self", "name", "standings"] (defScope s_Part_init) := ⟨rfl, rfl, rfl, by decide +kernel, rfl, by decide +kernel, by decide +kernel⟩
abbrev N_Part_row : List Str := ["self"]
theorem sc_Part_row : FnScope ["self"] ["self"] (defScope s_Part_row) := ⟨rfl, rfl, rfl, by decide +kernel, rfl, by decide +kernel, by decide +kernel⟩
abbrev N_Part_filled : List Str := ["self", "other", "standing", "after"]
theorem sc_Part_filled : FnScope ["self", "other", "standing", "after"] ["self", "other"] (defScope s_Part_filled) := ⟨rfl, rfl, rfl, by decide +kernel, rfl, by decide +kernel, by decide +kernel⟩
abbrev N_Single_twin : List Str := ["self"]
theorem sc_Single_twin : FnScope ["self"] ["self"] (defScope s_Single_twin) := ⟨rfl, rfl, rfl, by decide +kernel, rfl, by decide +kernel, by decide +kernel⟩
abbrev N_Many_twin : List Str := ["self"]
theorem sc_Many_twin : FnScope ["self"] ["self"] (defScope s_Many_twin) := ⟨rfl, rfl, rfl, by decide +kernel, rfl, by decide +kernel, by decide +kernel⟩
abbrev N_law_pool : List Str := ["_law_script", "_law_cell"]
theorem sc_law_pool : FnScope ["_law_script", "_law_cell"] ["_law_script"] (defScope s_law_pool) := ⟨rfl, rfl, rfl, by decide +kernel, rfl, by decide +kernel, by decide +kernel⟩
abbrev N_law_take : List Str := ["_law_pool_here", "_law_size", "_law_value", "_law_cells"]
theorem sc_law_take : FnScope ["_law_pool_here", "_law_size", "_law_value", "_law_cells"] ["_law_pool_here", "_law_size"] (defScope s_law_take) := ⟨rfl, rfl, rfl, by decide +kernel, rfl, by decide +kernel, by decide +kernel⟩
abbrev N_law_base : List Str := ["_law_pool_here", "_law_signs", "_law_k"]
theorem sc_law_base : FnScope ["_law_pool_here", "_law_signs", "_law_k"] ["_law_pool_here"] (defScope s_law_base) := ⟨rfl, rfl, rfl, by decide +kernel, rfl, by decide +kernel, by decide +kernel⟩
abbrev N_law_name : List Str := ["_law_pool_here", "_law_base_here", "_law_k", "_law_text", "_law_at"]
theorem sc_law_name : FnScope ["_law_pool_here", "_law_base_here", "_law_k", "_law_text", "_law_at"] ["_law_pool_here", "_law_base_here", "_law_k"] (defScope s_law_name) := ⟨rfl, rfl, rfl, by decide +kernel, rfl, by decide +kernel, by decide +kernel⟩
abbrev N_law_some : List Str := ["_law_pool_here", "_law_rows", "_law_most", "_law_found", "_law_k", "_law_row"]
theorem sc_law_some : FnScope ["_law_pool_here", "_law_rows", "_law_most", "_law_found", "_law_k", "_law_row"] ["_law_pool_here", "_law_rows", "_law_most"] (defScope s_law_some) := ⟨rfl, rfl, rfl, by decide +kernel, rfl, by decide +kernel, by decide +kernel⟩
abbrev N_law_told : List Str := ["_law_part", "_law_single", "_law_rows", "_law_standing"]
theorem sc_law_told : FnScope ["_law_part", "_law_single", "_law_rows", "_law_standing"] ["_law_part", "_law_single"] (defScope s_law_told) := ⟨rfl, rfl, rfl, by decide +kernel, rfl, by decide +kernel, by decide +kernel⟩
abbrev N_law_filled : List Str := ["_law_pool_here", "_law_kind", "_law_standings", "_law_doors", "_law_rows", "_law_before", "_law_leads", "_law_after", "_law_needs", "_law_gives"]
theorem sc_law_filled : FnScope ["_law_pool_here", "_law_kind", "_law_standings", "_law_doors", "_law_rows", "_law_before", "_law_leads", "_law_after", "_law_needs", "_law_gives"] ["_law_pool_here", "_law_kind", "_law_standings", "_law_doors"] (defScope s_law_filled) := ⟨rfl, rfl, rfl, by decide +kernel, rfl, by decide +kernel, by decide +kernel⟩
abbrev N_law_apart : List Str := ["_law_changed", "_law_other", "_law_single", "_law_due", "_law_strange", "_law_standings", "_law_rows", "_law_leads", "_law_after", "_law_first", "_law_second"]
theorem sc_law_apart : FnScope ["_law_changed", "_law_other", "_law_single", "_law_due", "_law_strange", "_law_standings", "_law_rows", "_law_leads", "_law_after", "_law_first", "_law_second"] ["_law_changed", "_law_other", "_law_single", "_law_due", "_law_strange"] (defScope s_law_apart) := ⟨rfl, rfl, rfl, by decide +kernel, rfl, by decide +kernel, by decide +kernel⟩
abbrev N_law : List Str := ["_law_script", "_law_pool_here", "_law_base_here", "_law_name_here", "_law_size", "_law_standings", "_law_k", "_law_doors", "_law_strange", "_law_text", "_law_single", "_law_kind", "_law_words", "_law_rows", "_law_due", "_law_pair", "_law_which"]
theorem sc_law : FnScope ["_law_script", "_law_pool_here", "_law_base_here", "_law_name_here", "_law_size", "_law_standings", "_law_k", "_law_doors", "_law_strange", "_law_text", "_law_single", "_law_kind", "_law_words", "_law_rows", "_law_due", "_law_pair", "_law_which"] ["_law_script"] (defScope s_law) := ⟨rfl, rfl, rfl, by decide +kernel, rfl, by decide +kernel, by decide +kernel⟩
abbrev N_Repeated_init : List Str := ["self", "name"]
theorem sc_Repeated_init : FnScopeS ["self", "name"] ["self", "name"] (defScope s_Repeated_init) := ⟨rfl, rfl, rfl, by decide +kernel, rfl, by decide +kernel, by decide +kernel, free_only (by decide +kernel), rfl, rfl⟩
abbrev N_Unknown_init : List Str := ["self", "name"]
theorem sc_Unknown_init : FnScopeS ["self", "name"] ["self", "name"] (defScope s_Unknown_init) := ⟨rfl, rfl, rfl, by decide +kernel, rfl, by decide +kernel, by decide +kernel, free_only (by decide +kernel), rfl, rfl⟩
abbrev N_NoStep_init : List Str := ["self", "before", "after"]
theorem sc_NoStep_init : FnScopeS ["self", "before", "after"] ["self", "before", "after"] (defScope s_NoStep_init) := ⟨rfl, rfl, rfl, by decide +kernel, rfl, by decide +kernel, by decide +kernel, free_only (by decide +kernel), rfl, rfl⟩
abbrev N_Single_row : List Str := ["self"]
theorem sc_Single_row : FnScopeS ["self"] ["self"] (defScope s_Single_row) := ⟨rfl, rfl, rfl, by decide +kernel, rfl, by decide +kernel, by decide +kernel, free_only (by decide +kernel), rfl, rfl⟩
abbrev N_Many_row : List Str := ["self"]
theorem sc_Many_row : FnScopeS ["self"] ["self"] (defScope s_Many_row) := ⟨rfl, rfl, rfl, by decide +kernel, rfl, by decide +kernel, by decide +kernel, free_only (by decide +kernel), rfl, rfl⟩
section
variable {P : Program} {w : World} {K : PySem.W.Frag} {mg : Str → Option Value} {base : Heap} {a : Ad}
abbrev sgK (K : PySem.W.Frag) (a : Ad) : Sg0 := ⟨K, fun n => match n with | 4 => a.C_Single | 5 => a.C_Many | 9 => a.C_Repeated | 10 => a.C_Unknown | 11 => a.C_NoStep | _ => 0, fun n => match n with | 4 => ["order", "leads", "rows", "doors", "name"] | 5 => ["order", "leads", "rows", "doors", "name"] | 9 => ["name"] | 10 => ["name"] | 11 => ["after", "before"] | _ => []⟩
abbrev kC (a : Ad) (m : Option Bool) : Addr := match m with | some true => a.C_Many | some false => a.C_Single | none => a.C_Part
theorem clK (T : Tx P K mg a) : ∀ m : Option Bool, Cls K (kC a m) | some true => T.cl_Many | some false => T.cl_Single | none => T.cl_Part
theorem naO (T : Tx P K mg a) : ∀ m : Option Bool, NoAttr K (kC a m) "order" | some true => T.na_Many_order | some false => T.na_Single_order | none => T.na_Part_order
theorem naL (T : Tx P K mg a) : ∀ m : Option Bool, NoAttr K (kC a m) "leads" | some true => T.na_Many_leads | some false => T.na_Single_leads | none => T.na_Part_leads
theorem naR (T : Tx P K mg a) : ∀ m : Option Bool, NoAttr K (kC a m) "rows" | some true => T.na_Many_rows | some false => T.na_Single_rows | none => T.na_Part_rows
theorem naD (T : Tx P K mg a) : ∀ m : Option Bool, NoAttr K (kC a m) "doors" | some true => T.na_Many_doors | some false => T.na_Single_doors | none => T.na_Part_doors
theorem naN (T : Tx P K mg a) : ∀ m : Option Bool, NoAttr K (kC a m) "name" | some true => T.na_Many_name | some false => T.na_Single_name | none => T.na_Part_name
theorem not_in_take {α : Type} {l : List α} (hn : l.Nodup) {i : Nat} {x : α} (h : l[i]? = some x) : x ∉ l.take i := fun z => by
  obtain ⟨j, hj⟩ := List.mem_iff_getElem?.mp z
  have h1 := at_lt hj
  rw [List.length_take] at h1
  rw [List.getElem?_take, if_pos (by omega)] at hj
  have := (List.getElem?_inj (show j < l.length by omega) hn).mp (hj.trans h.symm)
  omega
def nilM (ls : List Addr) : Mem := ls.map fun a => (a, M.lst [])
theorem nilM_ls : ∀ (ls : List Addr) (ll : List Nm), ls.length = ll.length → nilM ls = lsM ls (ll.map fun _ => [])
  | [], [], _ => rfl
  | [], _ :: _, h => by simp at h
  | _ :: _, [], h => by simp at h
  | a :: ls, l :: ll, h => by
    show (a, M.lst []) :: nilM ls = (a, M.lst []) :: lsM ls (ll.map fun _ => [])
    rw [nilM_ls ls ll (by simpa using h)]
theorem kvR_snoc {st : List Nm} {ls : List Addr} (y : Nm) (b : Addr) (h : st.length = ls.length) (hn : y ∉ st) : putKD (kvR st ls) (kN y) (.ref b) = kvR (st ++ [y]) (ls ++ [b]) := by
  have e := kvR_val (order := st) (ls := ls) y h
  unfold putKD
  have : ((kvR st ls).any fun kv => decide (kv.1 = kN y)) = false := by
    rw [List.any_eq_false]
    intro p hp
    rw [decide_eq_true_eq]
    intro z
    obtain ⟨q, hq⟩ : ∃ q, (kvR st ls).find? (fun kv => decide (kv.1 = kN y)) = some q := by
      cases e2 : (kvR st ls).find? fun kv => decide (kv.1 = kN y) with
      | some q => exact ⟨q, rfl⟩
      | none => exact absurd (decide_eq_true z) (List.find?_eq_none.mp e2 p hp)
    have hf : inb y st = true := by
      rw [← e]
      unfold valD
      rw [hq]
      rfl
    exact hn (inb_t.mp hf)
  rw [if_neg (by rw [this]; decide)]
  unfold kvR
  rw [List.map_append, List.map_append, List.zip_append (by simpa using h)]
  rfl
def sg_Steps (a : Ad) : SpG := fun ds μ Q _ => ∃ m x st dst μs, ds = [.ref x, dst] ∧ μ = (x, .ins (kC a m) []) :: μs ∧ Drf μs dst (List.map rp st) ∧ st.length ≤ 1000000 ∧ List.Nodup (α := Nm) st ∧
  ∀ o d ls, ls.length = st.length → Q .non ((x, .ins (kC a m) [("order", .ref o), ("leads", .ref d)]) :: (o, .lst (st.map rp)) :: (d, .dK (kvR st ls)) :: (nilM ls ++ μs))
theorem Steps_mono : MonoG (sg_Steps a) := fun _ _ _ _ _ _ ⟨m, x, st, dst, μs, h1, h2, h3, h4, h5, q⟩ w _ => ⟨m, x, st, dst, μs, h1, h2, h3, h4, h5, fun o d ls hl => w _ _ (q o d ls hl)⟩
theorem ok_Steps_init (T : Tx P K mg a) : FnOk P w K mg base CX0 1 a.f_Steps_init a.fd_Steps_init ["self", "standings"] (spG (sgK K a) (sg_Steps a)) := by
  refine fund_ok T.F_Steps_init sc_Steps_init (fun ds μ Q Ex h => ?_) (fun cdv A outer s H E ds μ Q Ex hr h => ?_)
  · obtain ⟨m, x, st, dst, μs, rfl, _⟩ := h
    rfl
  obtain ⟨m, x, st, dst, μs, rfl, rfl, hdst, hl, hn, q⟩ := h
  have hu := hu_room hr
  have nd := sc_Steps_init.nd
  have cl := clK T m
  have no := naO T m
  have nl := naL T m
  refine bl_cons ?_
  refine st_fld cl no ?_ (hs := swaps_at)
  refine ev_lstE ?_
  refine ea_nil ⟨few, fun o ho => ?_⟩
  refine nm 0 ?_
  refine ⟨x, [], _, rfl, .here, by decide, ?_⟩
  refine forb PassesOwn.never ?_
  refine ig_val ?_
  refine nm 1 ?_
  have hd0 : ∀ {m1 m2 : M}, Drf ((x, m1) :: μs ++ [(o, m2)]) dst (st.map rp) := by
    intro m1 m2
    cases hdst with
    | val => exact .val _
    | ref h => exact .ref (List.mem_append_left _ (.tail _ h))
  refine it_d st hd0 ?_
  refine ⟨fun i Γ' μ' => ∃ o2, Γ' = [some (.ref x), some dst, o2] ∧ μ' = (x, .ins (kC a m) [("order", .ref o)]) :: μs ++ [(o, .lst ((st.take i).map rp))], ⟨none, rfl, rfl⟩, fun _ _ _ ⟨_, _, e⟩ => by rw [e]; exact hd0, ?_, ?_⟩
  · rintro i d _ _ hd ⟨o2, rfl, rfl⟩
    obtain ⟨y, hy, rfl⟩ := map_at hd
    have mo : (o, M.lst ((st.take i).map rp)) ∈ (x, M.ins (kC a m) [("order", .ref o)]) :: μs ++ [(o, .lst ((st.take i).map rp))] := List.mem_append_right _ (.head _)
    have up : ∀ mm, Upd o (.lst ((st.take i).map rp)) mm ((x, M.ins (kC a m) [("order", .ref o)]) :: μs ++ [(o, .lst ((st.take i).map rp))]) ((x, M.ins (kC a m) [("order", .ref o)]) :: μs ++ [(o, mm)]) := fun mm => by
      generalize (x, M.ins (kC a m) [("order", .ref o)]) :: μs = L
      induction L with
      | nil => exact .here
      | cons q L ih => exact .there ih
    refine tn 2 ?nd1 ?_
    case nd1 => exact nd
    refine ifb ?_
    refine et_cmp ?_
    refine nm 2 ?_
    refine ev_fld cl no ?_
    refine nm 0 ?_
    refine xfm (.ref o) (.head _) rfl ?_
    refine op_in y (st.take i) hu .val (IsL.mem mo) ?_
    refine xb ?_
    have hnot : inb y (st.take i) = false := inb_f.mpr (not_in_take hn hy)
    rw [hnot]
    refine ⟨(fun h => nomatch h), fun _ => ?_⟩
    · refine nil ?_
      refine appF (α := Nm) (fun z => ev_fld cl no (nm 0 (xfm (.ref o) (.head _) rfl z))) mo ?_
      refine nm 2 ?_
      refine ⟨st.take i, y, _, rfl, by have := List.length_take_le i st; have := List.length_take_le' i st; omega, up _, ?_⟩
      refine nil ⟨_, rfl, ?_⟩
      rw [take_snoc hy]
  rintro _ _ ⟨o2, rfl, rfl⟩
  rw [List.length_map, List.take_length]
  refine bl_perm (μ' := (x, .ins (kC a m) [("order", .ref o)]) :: (o, .lst (st.map rp)) :: μs) (.cons _ (List.perm_append_comm (l₁ := μs) (l₂ := [(o, M.lst (st.map rp))]))) ?_
  refine bl_cons ?_
  refine st_fld cl nl ?_ (hs := swaps_at)
  refine ev_dcM (own := [("standing", 2)]) (by rfl) ?nd2 (blkOk_by (N := N_Steps_init) (sc := defScope s_Steps_init) (by decide +kernel)) (by rfl) ?_
  case nd2 => exact nd
  refine ig_val ?_
  refine ev_fld cl no ?_
  refine nm 0 ?_
  refine xfm (.ref o) (.head _) rfl ?_
  refine it_m st (.tail _ (.head _)) ?_
  refine ⟨fun i kvs μ' => ∃ ls, ls.length = i ∧ i ≤ st.length ∧ kvs = kvR (st.take i) ls ∧ μ' = (x, .ins (kC a m) [("order", .ref o)]) :: (o, .lst (st.map rp)) :: (μs ++ nilM ls), ⟨[], rfl, Nat.zero_le _, rfl, by rw [show nilM [] = [] from rfl, List.append_nil]⟩, (fun i kvs μ' ⟨ls, _, _, _, e⟩ => by rw [e]; exact .tail _ (.head _)), ?_, ?_⟩
  · rintro i d _ _ hd ⟨ls, hls, hi, rfl, rfl⟩ k
    obtain ⟨y, hy, rfl⟩ := map_at hd
    refine tn 2 ?nd3 ?_
    case nd3 => exact nd
    intro k
    refine nm 2 ?_
    intro k
    refine ev_lstE ?_
    refine ea_nil ⟨few, fun b hb => ?_⟩
    refine ⟨kN y, rfl, ?_, ls ++ [b], by simp [hls], at_lt hy, ?_, ?_⟩
    · have := List.length_take_le i st
      have := List.length_take_le' i st
      unfold kvR
      rw [List.length_zip, List.length_map, List.length_map, hls]
      omega
    · have := at_lt hy
      rw [kvR_snoc y b (by rw [List.length_take, hls]; omega) (not_in_take hn hy), take_snoc hy]
    · show _ :: _ :: ((μs ++ nilM ls) ++ [(b, M.lst [])]) = _
      unfold nilM
      rw [List.map_append, List.append_assoc]
      rfl
  · rintro kvs μ' ⟨ls, hls, hi, rfl, rfl⟩
    rw [List.length_map] at hls hi ⊢
    intro d hd
    rw [List.take_length]
    refine nm 0 ?_
    refine ⟨x, _, _, rfl, .there .here, (show 1 < 1000 by decide), ?_⟩
    refine bl_perm (μ' := (x, .ins (kC a m) [("order", .ref o), ("leads", .ref d)]) :: (o, .lst (st.map rp)) :: (d, .dK (kvR st ls)) :: (nilM ls ++ μs)) ?_ (nil (q o d ls hls))
    refine (List.Perm.swap _ _ _).trans (.cons _ ?_)
    refine (List.Perm.swap _ _ _).trans (.cons _ (.cons _ List.perm_append_comm))
def sg_Doors (a : Ad) : SpG := fun ds μ Q _ => ∃ m x st fs dst μs, ds = [.ref x, dst] ∧ μ = (x, .ins (kC a m) fs) :: μs ∧ Drf μs dst (List.map rp st) ∧ st.length ≤ 1000000 ∧ List.Nodup (α := Nm) st ∧ fs.length < 100 ∧
  ∀ e, Q .non ((x, .ins (kC a m) (putD "doors" (.ref e) (putD "rows" (rp st) fs))) :: (e, .dK (kvD (st.map fun s => (s, ((Tu.mk [], Tu.mk []) : Tu Nm × Tu Nm))))) :: μs)
theorem Doors_mono : MonoG (sg_Doors a) := fun _ _ _ _ _ _ ⟨m, x, st, fs, dst, μs, h1, h2, h3, h4, h5, h6, q⟩ w _ => ⟨m, x, st, fs, dst, μs, h1, h2, h3, h4, h5, h6, fun e => w _ _ (q e)⟩
theorem putD_len (f : Str) (d : D) : ∀ fs : List (Str × D), (putD f d fs).length ≤ fs.length + 1
  | [] => Nat.le_refl _
  | (g, x) :: r => by
    unfold putD
    split
    · simp
    · have := putD_len f d r
      simp
      omega
theorem putD_look (f : Str) (d : D) : ∀ fs : List (Str × D), (putD f d fs).lookup f = some d
  | [] => by simp [putD, List.lookup]
  | (g, x) :: r => by
    unfold putD
    split
    · rename_i h
      simp [List.lookup, h]
    · rename_i h
      have : (f == g) = false := by simpa using fun z : f = g => h z.symm
      simp [List.lookup, this, putD_look f d r]
theorem kvD_snoc {α : Type} [Rpd α] (l : List (Nm × α)) (k : Nm) (v : α) (hn : k ∉ l.map (·.1)) : putKD (kvD l) (kN k) (rp v) = kvD (l ++ [(k, v)]) := by
  unfold putKD kvD
  rw [if_neg, List.map_append]
  · rfl
  · rw [List.any_map, List.any_eq_true]
    rintro ⟨p, hp, h⟩
    have h : kN p.1 = kN k := by simpa using h
    exact hn (by rw [← kN_inj.mp h]; exact List.mem_map_of_mem hp)
theorem ok_Doors_init (T : Tx P K mg a) : FnOk P w K mg base CX0 1 a.f_Doors_init a.fd_Doors_init ["self", "standings"] (spG (sgK K a) (sg_Doors a)) := by
  refine fund_ok T.F_Doors_init sc_Doors_init (fun ds μ Q Ex h => ?_) (fun cdv A outer s H E ds μ Q Ex hr h => ?_)
  · obtain ⟨m, x, st, fs, dst, μs, rfl, _⟩ := h
    rfl
  obtain ⟨m, x, st, fs, dst, μs, rfl, rfl, hdst, hl, hn, hf, q⟩ := h
  have nd := sc_Doors_init.nd
  have cl := clK T m
  have nr := naR T m
  have ndd := naD T m
  refine bl_cons ?_
  refine st_fld cl nr ?_ (hs := swaps_at)
  refine cT T.z_list b_list ?_
  refine ea_c ?_
  refine nm 1 ?_
  refine ea_nil ?_
  refine c_list st (.l (by
    cases hdst with
    | val => exact .val _
    | ref h => exact .ref (.tail _ h))) ?_
  refine nm 0 ?_
  refine ⟨x, fs, _, rfl, .here, (show fs.length < 1000 by have : fs.length < 100 := hf; omega), ?_⟩
  refine bl_cons ?_
  refine st_fld cl ndd ?_ (hs := swaps_at)
  refine ev_dcM (own := [("standing", 2)]) (by rfl) ?nd2 (blkOk_by (N := N_Doors_init) (sc := defScope s_Doors_init) (by decide +kernel)) (by rfl) ?_
  case nd2 => exact nd
  refine ig_val ?_
  refine ev_fld cl nr ?_
  refine nm 0 ?_
  refine xfm (rp st) (.head _) (putD_look _ _ _) ?_
  refine it_l st ?_
  refine ⟨fun i kvs μ' => i ≤ st.length ∧ kvs = kvD (((st.take i).map fun s => (s, ((Tu.mk [], Tu.mk []) : Tu Nm × Tu Nm)))) ∧ μ' = (x, .ins (kC a m) (putD "rows" (rp st) fs)) :: μs, ⟨Nat.zero_le _, rfl, rfl⟩, (fun _ _ _ _ => trivial), ?_, ?_⟩
  · rintro i d _ _ hd ⟨hi, rfl, rfl⟩ k
    obtain ⟨y, hy, rfl⟩ := map_at hd
    refine tn 2 ?nd3 ?_
    case nd3 => exact nd
    intro k
    refine nm 2 ?_
    intro k
    refine ev_tup ?_
    refine ea_c ?_
    refine ev_tup ?_
    refine ea_few ?_
    refine ea_c ?_
    refine ev_tup ?_
    refine ea_few ?_
    refine ea_few ?_
    refine ⟨kN y, rfl, ?_, at_lt hy, ?_, rfl⟩
    · have := List.length_take_le i st
      have := List.length_take_le' i st
      unfold kvD
      rw [List.length_map, List.length_map]
      omega
    · have h1 : y ∉ (((st.take i).map fun s => (s, ((Tu.mk [], Tu.mk []) : Tu Nm × Tu Nm)))).map (·.1) := by
        rw [List.map_map]
        show y ∉ (st.take i).map fun s => s
        rw [List.map_id']
        exact not_in_take hn hy
      rw [take_snoc hy, List.map_append]
      exact kvD_snoc _ y ((Tu.mk [], Tu.mk []) : Tu Nm × Tu Nm) h1
  · rintro kvs μ' ⟨hi, rfl, rfl⟩
    rw [List.length_map, List.take_length]
    intro e he
    refine nm 0 ?_
    refine ⟨x, _, _, rfl, .there .here, ?_, ?_⟩
    · have := putD_len "rows" (rp st) fs
      have : fs.length < 100 := hf
      omega
    refine bl_perm (List.Perm.swap _ _ _) (nil (q e))
def newK (m : Bool) (n : Nm) (st : List Nm) : KindV := ⟨m, st, ⟨st.map fun s => (s, [])⟩, st, ⟨st.map fun s => (s, (Tu.mk [], Tu.mk []))⟩, n⟩
theorem newK_ok {m : Bool} {n : Nm} {st : List Nm} (hn : st.Nodup) (hl : st.length ≤ 1000000) : KOk (newK m n st) :=
  ⟨hn, by show (st.map _).map _ = st; rw [List.map_map]; exact List.map_id' _, rfl, by show (st.map _).map _ = st; rw [List.map_map]; exact List.map_id' _, hl⟩
def sg_Part (a : Ad) : SpG := fun ds μ Q _ => ∃ m x n st dst μs, ds = [.ref x, rp (n : Nm), dst] ∧ μ = (x, .ins (kC a m) []) :: μs ∧ Drf μs dst (List.map rp st) ∧ st.length ≤ 1000000 ∧ List.Nodup (α := Nm) st ∧
  ∀ A : KAd, A.ls.length = st.length → Q .non (kindM (kC a m) x A (newK (m.getD true) n st) ++ μs)
theorem Part_mono : MonoG (sg_Part a) := fun _ _ _ _ _ _ ⟨m, x, n, st, dst, μs, h1, h2, h3, h4, h5, q⟩ w _ => ⟨m, x, n, st, dst, μs, h1, h2, h3, h4, h5, fun A hl => w _ _ (q A hl)⟩
theorem ok_Part_init (T : Tx P K mg a) : FnOk P w K mg base CX0 2 a.f_Part_init a.fd_Part_init ["self", "name", "standings"] (spG (sgK K a) (sg_Part a)) := by
  refine fund_ok T.F_Part_init sc_Part_init (fun ds μ Q Ex h => ?_) (fun cdv A outer s H E ds μ Q Ex hr h => ?_)
  · obtain ⟨m, x, n, st, dst, μs, rfl, _⟩ := h
    rfl
  obtain ⟨m, x, n, st, dst, μs, rfl, rfl, hdst, hl, hn, q⟩ := h
  refine exF ?_
  refine ev_cfn Steps_mono T.cd_Steps T.of_Steps_init (ok_Steps_init T) (hr.mono (by decide)) T.F_Steps_init.kp T.b_Steps_init pass0 ?_
  refine ev_globR (by rfl) T.mgC_Steps ?_
  refine ⟨rfl, ?_⟩
  refine ea_c ?_
  refine nm 0 ?_
  refine ea_c ?_
  refine nm 2 ?_
  refine ea_nil ⟨_, [], Split.all _, m, x, st, dst, μs, rfl, rfl, hdst, hl, hn, fun o d ls hls => ?_⟩
  have sp : Split ((x, M.ins (kC a m) [("order", D.ref o), ("leads", D.ref d)]) :: (o, .lst (st.map rp)) :: (d, .dK (kvR st ls)) :: (nilM ls ++ μs) ++ []) ((x, M.ins (kC a m) [("order", D.ref o), ("leads", D.ref d)]) :: μs) ((o, .lst (st.map rp)) :: (d, .dK (kvR st ls)) :: nilM ls) := by
    rw [List.append_nil]
    exact .l (.r (.r (Split.right (nilM ls) μs)))
  refine exF ?_
  refine ev_cfn Doors_mono T.cd_Doors T.of_Doors_init (ok_Doors_init T) (hr.mono (by decide)) T.F_Doors_init.kp T.b_Doors_init pass0 ?_
  refine ev_globR (by rfl) T.mgC_Doors ?_
  refine ⟨rfl, ?_⟩
  refine ea_c ?_
  refine nm 0 ?_
  refine ea_c ?_
  refine nm 2 ?_
  refine ea_nil ⟨_, _, sp, m, x, st, _, dst, μs, rfl, rfl, hdst, hl, hn, (show 2 < 100 by decide), fun e => ?_⟩
  refine bl_cons ?_
  refine st_fld (clK T m) (naN T m) ?_ (hs := swaps_at)
  refine nm 1 ?_
  refine nm 0 ?_
  refine ⟨x, [("order", .ref o), ("leads", .ref d), ("rows", rp st), ("doors", .ref e)], (x, .ins (kC a m) [("order", .ref o), ("leads", .ref d), ("rows", rp st), ("doors", .ref e), ("name", rp n)]) :: (e, .dK (kvD (st.map fun s => (s, ((Tu.mk [], Tu.mk []) : Tu Nm × Tu Nm))))) :: (μs ++ (o, .lst (st.map rp)) :: (d, .dK (kvR st ls)) :: nilM ls), rfl, .here, (show 4 < 1000 by decide), ?_⟩
  have hp : List.Perm ((x, M.ins (kC a m) [("order", .ref o), ("leads", .ref d), ("rows", rp st), ("doors", .ref e), ("name", rp n)]) :: (e, .dK (kvD (st.map fun s => (s, ((Tu.mk [], Tu.mk []) : Tu Nm × Tu Nm))))) :: (μs ++ (o, .lst (st.map rp)) :: (d, .dK (kvR st ls)) :: nilM ls)) (kindM (kC a m) x ⟨o, d, e, ls⟩ (newK (m.getD true) n st) ++ μs) := by
    refine .cons _ ?_
    have : nilM ls = lsM ls ((newK (m.getD true) n st).leads.l.map (·.2)) := by
      show _ = lsM ls ((st.map fun s => (s, ([] : List Nm))).map (·.2))
      rw [List.map_map]
      exact nilM_ls ls st hls
    rw [this]
    refine (List.Perm.cons _ List.perm_append_comm).trans ?_
    refine (List.Perm.swap _ _ _).trans (.cons _ ?_)
    exact (List.Perm.swap _ _ _).trans (.refl _)
  exact bl_perm hp (nil (q ⟨o, d, e, ls⟩ hls))
theorem valD_inb {κ : KindV} {ls : List Addr} (ok : KOk κ) (hl : ls.length = κ.order.length) (k : Nm) : (valD (kvR κ.order ls) (kN k)).isSome = inb k κ.order := kvR_val k hl.symm
def sg_allow (a : Ad) : SpG := fun ds μ Q _ => ∃ m x A κ b c, ds = [.ref x, rp b, rp c] ∧ μ = kindM (kC a m) x A κ ∧ KOk κ ∧ A.ls.length = κ.order.length ∧ (∀ p ∈ κ.leads.l, p.2.length < 16777216) ∧ b ∈ κ.order ∧ c ∈ κ.order ∧ b ≠ c ∧
  Q .non (kindM (kC a m) x A (allowF κ b c))
theorem allow_mono : MonoG (sg_allow a) := fun _ _ _ _ _ _ ⟨m, x, A, κ, b, c, h1, h2, h3, h4, h5, h6, h7, h8, q⟩ w _ => ⟨m, x, A, κ, b, c, h1, h2, h3, h4, h5, h6, h7, h8, w _ _ q⟩
theorem ok_Steps_allow (T : Tx P K mg a) : FnOk P w K mg base CX0 1 a.f_Steps_allow a.fd_Steps_allow ["self", "before", "after"] (spG (sgK K a) (sg_allow a)) := by
  refine fund_ok T.F_Steps_allow sc_Steps_allow (fun ds μ Q Ex h => ?_) (fun cdv Ar outer s H E ds μ Q Ex hr h => ?_)
  · obtain ⟨m, x, A, κ, b, c, rfl, _⟩ := h
    rfl
  obtain ⟨m, x, A, κ, b, c, rfl, rfl, ok, hls, hz, hb, hc, hbc, q⟩ := h
  have hu := hu_room hr
  have nd := sc_Steps_allow.nd
  have hu1 := Nat.lt_of_le_of_lt (Nat.add_le_add_left (show 1 ≤ 65 by decide) _) hu
  refine forb PassesOwn.never ?_
  refine ig_val ?_
  refine ev_tup ?_
  refine ea_c ?_
  refine nm 1 ?_
  refine ea_c ?_
  refine nm 2 ?_
  refine ea_few ?_
  refine it_T (Tu.mk [b, c]) ?_
  refine ⟨fun i Γ' μ' => ∃ o3, Γ' = [some (.ref x), some (rp b), some (rp c), o3] ∧ μ' = kindM (kC a m) x A κ, ⟨none, rfl, rfl⟩, fun _ _ _ _ => trivial, ?_, ?_⟩
  · rintro i d _ _ hd ⟨o3, rfl, rfl⟩
    obtain ⟨y, hy, rfl⟩ := map_at hd
    have hyo : y ∈ κ.order := by
      rcases List.mem_cons.mp (List.mem_of_getElem? hy) with rfl | h
      · exact hb
      · cases List.mem_singleton.mp h
        exact hc
    refine tn 3 ?nd1 ?_
    case nd1 => exact nd
    refine ifb ?_
    refine et_dniK hu1 ?_
    refine nm 3 ?_
    refine ev_fld (clK T m) (naL T m) ?_
    refine nm 0 ?_
    refine xfm (.ref A.d) (.head _) rfl ?_
    refine ⟨_, kN y, .ref (.tail _ (.tail _ (.head _))), rfl, ?_⟩
    rw [valD_inb ok hls, inb_t.mpr hyo]
    exact ⟨(fun h => nomatch h), fun _ => nil (nil ⟨_, rfl, rfl⟩)⟩
  rintro _ _ ⟨o3, rfl, rfl⟩
  refine ifb ?_
  refine et_cmp ?_
  refine nm 1 ?_
  refine nm 2 ?_
  refine op_eq b c hu .val .val ?_
  refine xb ?_
  rw [decide_eq_false hbc]
  refine ⟨(fun h => nomatch h), fun _ => ?_⟩
  refine nil ?_
  -- self.leads[before]
  have hbl : b ∈ κ.leads.l.map (·.1) := by rw [ok.le]; exact hb
  obtain ⟨l, hl1, hl2⟩ := look_some hbl
  obtain ⟨lb, k1, k2, k3⟩ := kvR_at (ls := A.ls) (by rw [ok.ll, hls]) hl1
  rw [ok.le] at k1
  have mem : (lb, M.lst (l.map rp)) ∈ kindM (kC a m) x A κ := .tail _ (.tail _ (.tail _ (.tail _ k2)))
  refine ifb ?_
  refine et_cmp ?_
  refine nm 2 ?_
  refine ev_dgetK hu1 ?_
  refine ev_fld (clK T m) (naL T m) ?_
  refine nm 0 ?_
  refine xfm (.ref A.d) (.head _) rfl ?_
  refine nm 1 ?_
  refine ⟨_, kN b, _, .ref (.tail _ (.tail _ (.head _))), rfl, k1, ?_⟩
  refine op_ni c l hu .val (IsL.mem mem) ?_
  refine xb ?_
  have key : ∀ l', (c ∈ l → l' = l) → (c ∉ l → l' = l ++ [c]) → Upd lb (.lst (l.map rp)) (.lst (l'.map rp)) (kindM (kC a m) x A κ) (kindM (kC a m) x A (allowF κ b c)) := fun l' h1 h2 => by
    refine .there (.there (.there (.there ?_)))
    rcases k3 l' with k3 | k3
    · have e : (allowF κ b c).leads.l.map (·.2) = (κ.leads.l.map fun p => if p.1 = b then (p.1, l') else p).map (·.2) := by
        show (κ.leads.l.map _).map _ = _
        rw [List.map_map, List.map_map]
        refine List.map_congr_left fun p hp => ?_
        show (if p.1 = b then _ else p).2 = (if p.1 = b then (p.1, l') else p).2
        by_cases e : p.1 = b
        · have hpl : p.2 = l := by
            have hn : (κ.leads.l.map (·.1)).Nodup := by rw [ok.le]; exact ok.nd
            obtain ⟨i, hi⟩ := List.mem_iff_getElem?.mp hp
            obtain ⟨j, hj⟩ := List.mem_iff_getElem?.mp hl2
            have e1 : (κ.leads.l.map (·.1))[i]? = some b := by rw [List.getElem?_map, hi]; exact congrArg some e
            have e2 : (κ.leads.l.map (·.1))[j]? = some b := by rw [List.getElem?_map, hj]; rfl
            have := (List.getElem?_inj (at_lt e1) hn).mp (e1.trans e2.symm)
            subst this
            rw [hi] at hj
            cases hj
            rfl
          rw [if_pos e, if_pos e, hpl]
          show (if c ∈ l then l else l ++ [c]) = l'
          by_cases hcl : c ∈ l
          · rw [if_pos hcl, h1 hcl]
          · rw [if_neg hcl, h2 hcl]
        · rw [if_neg e, if_neg e]
      rw [e]
      exact k3
    · exact absurd (by rw [ok.le]; exact ok.nd) k3
  refine ⟨fun ht => ?_, fun hf => ?_⟩
  · have hcl : c ∉ l := inb_f.mp (by simpa using ht)
    refine appF (α := Nm) (fun z => ev_dgetK hu1 (ev_fld (clK T m) (naL T m) (nm 0 (xfm (.ref A.d) (.head _) rfl (nm 1 ⟨_, kN b, _, .ref (.tail _ (.tail _ (.head _))), rfl, k1, z⟩))))) mem ?_
    refine nm 2 ?_
    exact ⟨l, c, _, rfl, hz (b, l) hl2, key _ (fun h => absurd h hcl) (fun _ => rfl), nil (nil q)⟩
  · have hcl : c ∈ l := inb_t.mp (by simpa using hf)
    have e : allowF κ b c = κ := by
      have u := key l (fun _ => rfl) (fun h => absurd hcl h)
      unfold allowF
      have : κ.leads.l.map (fun p => if p.1 = b then (p.1, if c ∈ p.2 then p.2 else p.2 ++ [c]) else p) = κ.leads.l := by
        conv => rhs; rw [← List.map_id κ.leads.l]
        refine List.map_congr_left fun p hp => ?_
        show (if p.1 = b then _ else p) = p
        by_cases e : p.1 = b
        · have hpl : p.2 = l := by
            have hn : (κ.leads.l.map (·.1)).Nodup := by rw [ok.le]; exact ok.nd
            obtain ⟨i, hi⟩ := List.mem_iff_getElem?.mp hp
            obtain ⟨j, hj⟩ := List.mem_iff_getElem?.mp hl2
            have e1 : (κ.leads.l.map (·.1))[i]? = some b := by rw [List.getElem?_map, hi]; exact congrArg some e
            have e2 : (κ.leads.l.map (·.1))[j]? = some b := by rw [List.getElem?_map, hj]; rfl
            have := (List.getElem?_inj (at_lt e1) hn).mp (e1.trans e2.symm)
            subst this
            rw [hi] at hj
            cases hj
            rfl
          rw [if_pos e, hpl, if_pos hcl, ← hpl]
        · rw [if_neg e]
      rw [this]
    rw [e] at q
    exact nil (nil q)
def m_without_repeats (v_names : (Sq Nm)) (k : (Tu Nm) → Prop) : Prop :=
  forI v_names.l ([] : (List Nm)) (fun (x6 : Nm) (s3 : (List Nm)) J4 => ∃ J8 : (List Nm) → Prop, (((!(inb x6 s3)) = true → (s3.length < 16777216) ∧ (J8 (s3 ++ [x6]))) ∧ ((!(inb x6 s3)) = false → J8 s3)) ∧ ∀ (s9 : (List Nm)), J8 s9 → J4 s9) (fun s3 => k (Tu.mk s3))
abbrev sg_without_repeats : SpG := sgN (fun (x : (Sq Nm)) => [rp x]) (fun (x : (Sq Nm)) kk => m_without_repeats x kk)
theorem ok_without_repeats (T : Tx P K mg a) : FnOk P w K mg base CX0 1 a.f_without_repeats a.fd_without_repeats ["names"] (spG (sgK K a) sg_without_repeats) := by
  refine fundN T.F_without_repeats sc_without_repeats (fun _ => rfl) (fun cdv A outer s H E v_names k hr h => ?_)
  have hu := hu_room hr
  have nd := sc_without_repeats.nd
  replace h : m_without_repeats v_names k := h
  unfold m_without_repeats at h
  refine asgF 1 ?nd2 ?_
  case nd2 => exact nd
  refine ev_lstE ?_
  refine ea_nil ⟨few, fun y1 hy1 => ?_⟩
  refine forb PassesOwn.never ?_
  refine ig_val ?_
  refine nm 0 ?_
  refine it_S v_names ?_
  refine forQ (xs := v_names.l) (s0 := ([] : (List Nm))) (f := fun x6 : Nm => rp x6) h (fun (s3 : (List Nm)) Γ' μ' => ∃ (o5 : Option D) , Γ' = [some (rp v_names), some (.ref y1), o5] ∧ μ' = [(y1, .lst (List.map rp s3))]) ⟨_, rfl, rfl⟩ (fun _ _ _ _ => trivial) (fun x6 s3 J4 Γ' μ' hx r h => ?_) (fun s3 Γ' μ' r h => ?_)
  · obtain ⟨o5, rfl, rfl⟩ := r
    refine tn 2 ?nd7 ?_
    case nd7 => exact nd
    obtain ⟨J8, h, hJ⟩ := h
    refine seqP (fun Γ' μ' => ∃ (s9 : (List Nm))  , J8 s9 ∧ Γ' = [some (rp v_names), some (.ref y1), some (rp x6)] ∧ μ' = [(y1, .lst (List.map rp s9))]) ?_ ?_
    · refine st_if ?_
      refine et_cmp ?_
      refine nm 2 ?_
      refine nm 1 ?_
      refine op_ni x6 s3 hu .val (IsL.mem (.head _)) ?_
      refine xb ?_
      refine ⟨fun ht => ?_, fun ht => ?_⟩
      · replace h := h.1 ht
        refine appF (α := Nm) (fun z => nm 1 z) (.head _) ?_
        refine nm 2 ?_
        obtain ⟨g10, h⟩ := h
        refine ⟨s3, x6, _, rfl, g10, (.here), ?_⟩
        exact nil ⟨(s3 ++ [x6]), h, rfl, rfl⟩
      · replace h := h.2 ht
        exact nil ⟨s3, h, rfl, rfl⟩
    rintro _ _ ⟨s9, hs, rfl, rfl⟩
    replace h := hJ s9 hs
    exact nil ⟨s9, h, ⟨_, rfl, rfl⟩⟩
  obtain ⟨o5, rfl, rfl⟩ := r
  refine ret ?_
  refine cT T.z_tuple b_tuple ?_
  refine ea_c ?_
  refine nm 1 ?_
  refine ea_nil ?_
  refine c_tuple s3 (.l (.ref (.head _))) ?_
  refine ⟨(Tu.mk s3), rfl, h⟩
def onceT (s : Sq Nm) : Tu Nm := Tu.mk (onceL s.l)
def okSq (s : Sq Nm) : Prop := s.l.length ≤ 1000000
theorem okF_without_repeats (T : Tx P K mg a) : FnOk P w K mg base CX0 1 a.f_without_repeats a.fd_without_repeats ["names"] (spG (sgK K a) (sgF (fun (x : Sq Nm) => [rp x]) okSq onceT)) := okF (ok_without_repeats T) fun s k hs hk => by
  refine forI_fn onceL rfl (fun i x hx J hJ => ?_) hk
  rw [onceL_snoc] at hJ
  refine ⟨J, ⟨fun h => ?_, fun h => ?_⟩, fun s h => h⟩
  · have h : inb x (onceL (s.l.take i)) = false := by simpa using h
    rw [if_neg (by rw [h]; decide)] at hJ
    refine ⟨?_, hJ⟩
    have h1 := onceL_len (s.l.take i)
    have h2 := List.length_take_le' i s.l
    have : s.l.length ≤ 1000000 := hs
    omega
  · have h : inb x (onceL (s.l.take i)) = true := by simpa using h
    rw [if_pos h] at hJ
    exact hJ
def sg_set (a : Ad) : SpG := fun ds μ Q _ => ∃ m x A κ k n g, ds = [.ref x, rp k, .tup [rp (n : Sq Nm), rp (g : Sq Nm)]] ∧ μ = kindM (kC a m) x A κ ∧ KOk κ ∧ k ∈ κ.order ∧ okSq n ∧ okSq g ∧ Q .non (kindM (kC a m) x A (setF' κ k (onceT n, onceT g)))
theorem set_mono : MonoG (sg_set a) := fun _ _ _ _ _ _ ⟨m, x, A, κ, k, n, g, h1, h2, h3, h4, h5, h6, q⟩ w _ => ⟨m, x, A, κ, k, n, g, h1, h2, h3, h4, h5, h6, w _ _ q⟩
theorem ok_Doors_setitem (T : Tx P K mg a) : FnOk P w K mg base CX0 2 a.f_Doors_setitem a.fd_Doors_setitem ["self", "standing", "worth"] (spG (sgK K a) (sg_set a)) := by
  refine fund_ok T.F_Doors_setitem sc_Doors_setitem (fun ds μ Q Ex h => ?_) (fun cdv Ar outer s H E ds μ Q Ex hr h => ?_)
  · obtain ⟨m, x, A, κ, k, n, g, rfl, _⟩ := h
    rfl
  obtain ⟨m, x, A, κ, k, n, g, rfl, rfl, ok, hk, hn, hg, q⟩ := h
  have hu := hu_room hr
  have nd := sc_Doors_setitem.nd
  have hu1 := Nat.lt_of_le_of_lt (Nat.add_le_add_left (show 1 ≤ 65 by decide) _) hu
  have hkl : k ∈ κ.doors.l.map (·.1) := by rw [ok.dk]; exact hk
  obtain ⟨v, hv, _⟩ := look_some hkl
  refine ifb ?_
  refine et_dniK hu1 ?_
  refine nm 1 ?_
  refine ev_fld (clK T m) (naD T m) ?_
  refine nm 0 ?_
  refine xfm (.ref A.e) (.head _) rfl ?_
  refine ⟨_, kN k, .ref (.tail _ (.tail _ (.tail _ (.head _)))), rfl, ?_⟩
  rw [val_look, hv]
  refine ⟨(fun h => nomatch h), fun _ => ?_⟩
  refine nil ?_
  refine setb ?_
  refine nm 2 ?_
  refine tg_tup (n := 2) rfl rfl (hl := rfl) ?_
  refine tgs_cons ?_
  refine tn 3 ?nd1 ?_
  case nd1 => exact nd
  refine tgs_cons ?_
  refine tn 4 ?nd2 ?_
  case nd2 => exact nd
  refine tgs_nil ?_
  refine bl_cons ?_
  refine st_dputK hu1 ?_ (hs := swaps_su)
  refine ev_tup ?_
  refine ea_c ?_
  refine cF sgF_mono (okF_without_repeats T) (hr.mono (by decide)) T.mg_without_repeats T.F_without_repeats.kp T.b_without_repeats pass0 ?_
  refine ea_c ?_
  refine nm 3 ?_
  refine ea_nil ?_
  refine ask_f n hn ?_
  refine ea_c ?_
  refine cF sgF_mono (okF_without_repeats T) (hr.mono (by decide)) T.mg_without_repeats T.F_without_repeats.kp T.b_without_repeats pass0 ?_
  refine ea_c ?_
  refine nm 4 ?_
  refine ea_nil ?_
  refine ask_f g hg ?_
  refine ea_few ?_
  refine ev_fld (clK T m) (naD T m) ?_
  refine nm 0 ?_
  refine xfm (.ref A.e) (.head _) rfl ?_
  refine nm 1 ?_
  refine ⟨A.e, kvD κ.doors.l, kN k, kindM (kC a m) x A (setF' κ k (onceT n, onceT g)), rfl, rfl, ?_, ?_, nil q⟩
  · unfold kvD
    rw [List.length_map]
    have := congrArg List.length ok.dk
    rw [List.length_map] at this
    have := ok.few
    omega
  · refine .there (.there (.there ?_))
    have e : putKD (kvD κ.doors.l) (kN k) (rp (onceT n, onceT g)) = kvD (setF' κ k (onceT n, onceT g)).doors.l := put_kvD (onceT n, onceT g) hkl
    have e' : putKD (kvD κ.doors.l) (kN k) (.tup [rp (onceT n), rp (onceT g)]) = kvD (setF' κ k (onceT n, onceT g)).doors.l := e
    show Upd A.e _ (.dK (putKD (kvD κ.doors.l) (kN k) (.tup [rp (onceT n), rp (onceT g)]))) _ ((A.e, .dK (kvD (setF' κ k (onceT n, onceT g)).doors.l)) :: _)
    rw [← e']
    exact .here
structure KGood (κ : KindV) : Prop extends KOk κ where
  st : ∀ p ∈ κ.leads.l, p.2.Nodup ∧ ∀ c ∈ p.2, c ∈ κ.order ∧ c ≠ p.1
  dr : ∀ p ∈ κ.doors.l, (p.2.1.l.Nodup ∧ p.2.1.l.length ≤ 1000000) ∧ p.2.2.l.Nodup ∧ p.2.2.l.length ≤ 1000000
def upTo (κ : KindV) (i j : Nat) : KindV := ⟨κ.many, κ.order, ⟨κ.leads.l.mapIdx fun t p => (p.1, if t < i then p.2 else if t = i then p.2.take j else [])⟩, κ.order, ⟨κ.doors.l.mapIdx fun t p => (p.1, if t < i then p.2 else (Tu.mk [], Tu.mk []))⟩, κ.name⟩
theorem key_at {α : Type} {l : List (Nm × α)} {i t : Nat} {s : Nm} {x : α} {p : Nm × α} (hn : (l.map (·.1)).Nodup) (hi : l[i]? = some (s, x)) (ht : l[t]? = some p) : p.1 = s ↔ t = i := by
  have e1 : (l.map (·.1))[i]? = some s := by rw [List.getElem?_map, hi]; rfl
  have e2 : (l.map (·.1))[t]? = some p.1 := by rw [List.getElem?_map, ht]; rfl
  constructor
  · intro h
    rw [h] at e2
    exact ((List.getElem?_inj (at_lt e1) hn).mp (e1.trans e2.symm)).symm
  · rintro rfl
    rw [hi] at ht
    cases ht
    rfl
theorem KindV.same {x y : KindV} (h1 : x.many = y.many) (h2 : x.order = y.order) (h3 : x.leads.l = y.leads.l) (h4 : x.rows = y.rows) (h5 : x.doors.l = y.doors.l) (h6 : x.name = y.name) : x = y := by
  obtain ⟨a, b, ⟨c⟩, d, ⟨e⟩, f⟩ := x
  obtain ⟨a', b', ⟨c'⟩, d', ⟨e'⟩, f'⟩ := y
  simp only at h1 h2 h3 h4 h5 h6
  subst h1 h2 h3 h4 h5 h6
  rfl
theorem upTo_0 {κ : KindV} (ok : KOk κ) : upTo κ 0 0 = newK κ.many κ.name κ.order := by
  refine KindV.same rfl rfl ?_ rfl ?_ rfl
  · show κ.leads.l.mapIdx _ = κ.order.map _
    rw [← ok.le, List.map_map]
    refine List.ext_getElem? fun t => ?_
    rw [List.getElem?_mapIdx, List.getElem?_map]
    cases κ.leads.l[t]? with
    | none => rfl
    | some p =>
      show some (p.1, if t < 0 then p.2 else if t = 0 then p.2.take 0 else []) = some (p.1, [])
      rw [if_neg (Nat.not_lt_zero _)]
      split <;> simp
  · show κ.doors.l.mapIdx _ = κ.order.map _
    rw [← ok.dk, List.map_map]
    refine List.ext_getElem? fun t => ?_
    rw [List.getElem?_mapIdx, List.getElem?_map]
    cases κ.doors.l[t]? with
    | none => rfl
    | some p => rfl
theorem upTo_step {κ : KindV} (ok : KOk κ) {i j : Nat} {s c : Nm} {l : List Nm} (hi : κ.leads.l[i]? = some (s, l)) (hj : l[j]? = some c) (hn : l.Nodup) : allowF (upTo κ i j) s c = upTo κ i (j + 1) := by
  refine KindV.same rfl rfl ?_ rfl rfl rfl
  show (κ.leads.l.mapIdx _).map _ = κ.leads.l.mapIdx _
  refine List.ext_getElem? fun t => ?_
  rw [List.getElem?_map, List.getElem?_mapIdx, List.getElem?_mapIdx]
  cases ht : κ.leads.l[t]? with
  | none => rfl
  | some p =>
    have hk := key_at (by rw [ok.le]; exact ok.nd) hi ht
    show some (if p.1 = s then _ else _) = some (p.1, if t < i then p.2 else if t = i then p.2.take (j + 1) else [])
    by_cases e : t = i
    · subst e
      rw [hi] at ht
      cases ht
      have hc : c ∉ l.take j := not_in_take hn hj
      rw [if_pos rfl]
      dsimp only
      simp [hc, take_snoc hj]
    · rw [if_neg (fun z => e (hk.mp z))]
      dsimp only
      rw [if_neg e, if_neg e]
theorem upTo_set {κ : KindV} (ok : KOk κ) {i : Nat} {s : Nm} {l : List Nm} {v : Tu Nm × Tu Nm} (hi : κ.leads.l[i]? = some (s, l)) (hd : κ.doors.l[i]? = some (s, v)) : setF' (upTo κ i l.length) s v = upTo κ (i + 1) 0 := by
  refine KindV.same rfl rfl ?_ rfl ?_ rfl
  · show κ.leads.l.mapIdx _ = κ.leads.l.mapIdx _
    refine List.ext_getElem? fun t => ?_
    rw [List.getElem?_mapIdx, List.getElem?_mapIdx]
    cases ht : κ.leads.l[t]? with
    | none => rfl
    | some p =>
      show some (p.1, if t < i then p.2 else if t = i then p.2.take l.length else []) = some (p.1, if t < i + 1 then p.2 else if t = i + 1 then p.2.take 0 else [])
      by_cases e : t = i
      · subst e
        rw [hi] at ht
        cases ht
        rw [if_neg (Nat.lt_irrefl _), if_pos rfl, if_pos (Nat.lt_succ_self _), List.take_length]
      · by_cases h : t < i
        · rw [if_pos h, if_pos (by omega)]
        · rw [if_neg h, if_neg e, if_neg (by omega)]
          split <;> simp
  · show (κ.doors.l.mapIdx _).map _ = κ.doors.l.mapIdx _
    refine List.ext_getElem? fun t => ?_
    rw [List.getElem?_map, List.getElem?_mapIdx, List.getElem?_mapIdx]
    cases ht : κ.doors.l[t]? with
    | none => rfl
    | some p =>
      have hk := key_at (by rw [ok.dk]; exact ok.nd) hd ht
      show some (if p.1 = s then _ else _) = some (p.1, if t < i + 1 then p.2 else _)
      by_cases e : t = i
      · subst e
        rw [hd] at ht
        cases ht
        rw [if_pos rfl, if_pos (Nat.lt_succ_self _)]
      · rw [if_neg (fun z => e (hk.mp z))]
        dsimp only
        by_cases h : t < i
        · rw [if_pos h, if_pos (by omega)]
        · rw [if_neg h, if_neg (by omega)]
theorem upTo_all {κ : KindV} (ok : KOk κ) : upTo κ κ.order.length 0 = κ := by
  refine KindV.same rfl rfl ?_ ok.ro.symm ?_ rfl
  · show κ.leads.l.mapIdx _ = κ.leads.l
    refine List.ext_getElem? fun t => ?_
    rw [List.getElem?_mapIdx]
    cases ht : κ.leads.l[t]? with
    | none => rfl
    | some p =>
      have := at_lt ht
      rw [ok.ll] at this
      show some (p.1, if t < κ.order.length then p.2 else _) = some p
      rw [if_pos this]
  · show κ.doors.l.mapIdx _ = κ.doors.l
    refine List.ext_getElem? fun t => ?_
    rw [List.getElem?_mapIdx]
    cases ht : κ.doors.l[t]? with
    | none => rfl
    | some p =>
      have := at_lt ht
      have h2 := congrArg List.length ok.dk
      rw [List.length_map] at h2
      show some (p.1, if t < κ.order.length then p.2 else _) = some p
      rw [if_pos (by omega)]
theorem upTo_ok {κ : KindV} (ok : KOk κ) (i j : Nat) : KOk (upTo κ i j) := by
  refine ⟨ok.nd, ?_, rfl, ?_, ok.few⟩
  · show (κ.leads.l.mapIdx _).map _ = κ.order
    rw [← ok.le]
    refine List.ext_getElem? fun t => ?_
    rw [List.getElem?_map, List.getElem?_mapIdx, List.getElem?_map]
    cases κ.leads.l[t]? <;> rfl
  · show (κ.doors.l.mapIdx _).map _ = κ.order
    rw [← ok.dk]
    refine List.ext_getElem? fun t => ?_
    rw [List.getElem?_map, List.getElem?_mapIdx, List.getElem?_map]
    cases κ.doors.l[t]? <;> rfl
theorem order_at {κ : KindV} (ok : KOk κ) {i : Nat} {s : Nm} (h : κ.order[i]? = some s) : (∃ l, κ.leads.l[i]? = some (s, l)) ∧ ∃ v, κ.doors.l[i]? = some (s, v) := by
  constructor
  · rw [← ok.le, List.getElem?_map] at h
    obtain ⟨p, hp, rfl⟩ := Option.map_eq_some_iff.mp h
    exact ⟨p.2, hp⟩
  · rw [← ok.dk, List.getElem?_map] at h
    obtain ⟨p, hp, rfl⟩ := Option.map_eq_some_iff.mp h
    exact ⟨p.2, hp⟩
theorem look_at {α : Type} {l : List (Nm × α)} {i : Nat} {s : Nm} {x : α} (hn : (l.map (·.1)).Nodup) (h : l[i]? = some (s, x)) : look l s = some x := by
  obtain ⟨v, hv, hm⟩ := look_some (List.mem_map_of_mem (f := (·.1)) (List.mem_of_getElem? h))
  obtain ⟨j, hj⟩ := List.mem_iff_getElem?.mp hm
  have := (key_at hn h hj).mp rfl
  subst this
  rw [h] at hj
  cases hj
  exact hv
theorem nd_len {α : Type} [DecidableEq α] : ∀ {l m : List α}, l.Nodup → (∀ c ∈ l, c ∈ m) → l.length ≤ m.length
  | [], _, _, _ => Nat.zero_le _
  | x :: l, m, hn, h => by
    have h1 := List.nodup_cons.mp hn
    have := nd_len (l := l) (m := m.erase x) h1.2 fun c hc => (List.mem_erase_of_ne (fun (z : c = x) => h1.1 (by rw [← z]; exact hc))).mpr (h c (List.mem_cons_of_mem _ hc))
    rw [List.length_erase_of_mem (h x List.mem_cons_self)] at this
    have hp : 0 < m.length := List.length_pos_of_mem (h x List.mem_cons_self)
    rw [List.length_cons]
    omega
theorem mK_allow (T : Tx P K mg a) : ∀ m : Bool, Meth K (kC a m) "allow" a.f_Steps_allow | true => ⟨T.at_Many_allow, T.fn_Steps_allow, T.F_Steps_allow.kp⟩ | false => ⟨T.at_Single_allow, T.fn_Steps_allow, T.F_Steps_allow.kp⟩
theorem atK_set (T : Tx P K mg a) : ∀ m : Bool, PySem.W.findIn K (.ref (kC a m)) "__setitem__" = some (some (.ref a.f_Doors_setitem)) | true => T.at_Many_setitem | false => T.at_Single_setitem
theorem nqK (T : Tx P K mg a) : ∀ m : Bool, PySem.W.noSeq K (kC a m) = true | true => T.nq_Many | false => T.nq_Single
theorem kindD {C x : Addr} {A : KAd} {κ : KindV} : (A.d, M.dK (kvR κ.order A.ls)) ∈ kindM C x A κ := .tail _ (.tail _ (.head _))
theorem kindE {C x : Addr} {A : KAd} {κ : KindV} : (A.e, M.dK (kvD κ.doors.l)) ∈ kindM C x A κ := .tail _ (.tail _ (.tail _ (.head _)))
theorem kindO {C x : Addr} {A : KAd} {κ : KindV} : (A.o, M.lst (κ.order.map rp)) ∈ kindM C x A κ := .tail _ (.head _)
theorem SplitR : ∀ a b : Mem, Split (a ++ b) b a
  | [], b => Split.all b
  | _ :: a, b => .r (SplitR a b)
def sg_filled (a : Ad) : SpG := fun ds μ Q _ => ∃ x0 A0 x A κ, ds = [.ref x0, .ref x] ∧ μ = kindM (kC a κ.many) x0 A0 κ ++ kindM (kC a κ.many) x A (newK κ.many κ.name κ.order) ∧ KGood κ ∧ A0.ls.length = κ.order.length ∧ A.ls.length = κ.order.length ∧ Q (.ref x) (kindM (kC a κ.many) x0 A0 κ ++ kindM (kC a κ.many) x A κ)
theorem filled_mono : MonoG (sg_filled a) := fun _ _ _ _ _ _ ⟨x0, A0, x, A, κ, h1, h2, h3, h4, h5, q⟩ w _ => ⟨x0, A0, x, A, κ, h1, h2, h3, h4, h5, w _ _ q⟩
theorem ok_Part_filled (T : Tx P K mg a) : FnOk P w K mg base CX0 3 a.f_Part_filled a.fd_Part_filled ["self", "other"] (spG (sgK K a) (sg_filled a)) := by
  refine fund_ok T.F_Part_filled sc_Part_filled (fun ds μ Q Ex h => ?_) (fun cdv Ar outer s H E ds μ Q Ex hr h => ?_)
  · obtain ⟨x0, A0, x, A, κ, rfl, _⟩ := h
    rfl
  obtain ⟨x0, A0, x, A, κ, rfl, rfl, good, hl0, hls, q⟩ := h
  have ok0 := good.toKOk
  have ok := good.toKOk
  generalize hKm : kindM (kC a κ.many) x0 A0 κ = Km at q ⊢
  have mx : (x0, M.ins (kC a κ.many) [("order", .ref A0.o), ("leads", .ref A0.d), ("rows", rp κ.rows), ("doors", .ref A0.e), ("name", rp κ.name)]) ∈ Km := by rw [← hKm]; exact .head _
  have mo : (A0.o, M.lst (κ.order.map rp)) ∈ Km := by rw [← hKm]; exact kindO
  have md : (A0.d, M.dK (kvR κ.order A0.ls)) ∈ Km := by rw [← hKm]; exact kindD
  have me : (A0.e, M.dK (kvD κ.doors.l)) ∈ Km := by rw [← hKm]; exact kindE
  have ml : ∀ {s : Nm} {l : List Nm}, look κ.leads.l s = some l → ∃ b, valD (kvR κ.order A0.ls) (kN s) = some (.ref b) ∧ (b, M.lst (l.map rp)) ∈ Km := fun h => by
    obtain ⟨b, h1, h2, _⟩ := kvR_at (ls := A0.ls) (by rw [ok0.ll, hl0]) h
    rw [ok0.le] at h1
    exact ⟨b, h1, by rw [← hKm]; exact .tail _ (.tail _ (.tail _ (.tail _ h2)))⟩
  have hu := hu_room hr
  have nd := sc_Part_filled.nd
  have hu1 := Nat.lt_of_le_of_lt (Nat.add_le_add_left (show 1 ≤ 65 by decide) _) hu
  have dko : (κ.doors.l.map (·.1)).Nodup := by rw [ok.dk]; exact ok.nd
  have lko : (κ.leads.l.map (·.1)).Nodup := by rw [ok.le]; exact ok.nd
  rw [← upTo_0 ok]
  refine forb PassesOwn.never ?_
  refine ig_val ?_
  refine ev_fld (clK T κ.many) (naO T κ.many) ?_
  refine nm 0 ?_
  refine xfm (.ref A0.o) (List.mem_append_left _ mx) rfl ?_
  refine it_m κ.order (List.mem_append_left _ mo) ?_
  refine ⟨fun i Γ' μ' => ∃ o2 o3, Γ' = [some (.ref x0), some (.ref x), o2, o3] ∧ μ' = Km ++ kindM (kC a κ.many) x A (upTo κ i 0), ⟨none, none, rfl, rfl⟩, fun _ _ _ ⟨_, _, _, e⟩ => by rw [e]; exact List.mem_append_left _ mo, ?_, ?_⟩
  · rintro i d _ _ hd ⟨o2, o3, rfl, rfl⟩
    obtain ⟨s, hs, rfl⟩ := map_at hd
    obtain ⟨⟨l, hl⟩, v, hv⟩ := order_at ok hs
    have hg := good.st _ (List.mem_of_getElem? hl)
    have hso : s ∈ κ.order := List.mem_of_getElem? hs
    refine tn 2 ?nd1 ?_
    case nd1 => exact nd
    refine forb PassesOwn.never ?_
    refine ig_val ?_
    refine ev_dgetK hu1 ?_
    refine ev_fld (clK T κ.many) (naL T κ.many) ?_
    refine nm 0 ?_
    refine xfm (.ref A0.d) (List.mem_append_left _ mx) rfl ?_
    refine nm 2 ?_
    obtain ⟨lb, kb1, kb2⟩ := ml (look_at lko hl)
    refine ⟨_, kN s, _, .ref (List.mem_append_left _ md), rfl, kb1, ?_⟩
    refine it_m l (List.mem_append_left _ kb2) ?_
    refine ⟨fun j Γ' μ' => ∃ o3, Γ' = [some (.ref x0), some (.ref x), some (rp s), o3] ∧ μ' = Km ++ kindM (kC a κ.many) x A (upTo κ i j), ⟨_, rfl, rfl⟩, fun _ _ _ ⟨_, _, e⟩ => by rw [e]; exact List.mem_append_left _ kb2, ?_, ?_⟩
    · rintro j d _ _ hd ⟨o3, rfl, rfl⟩
      obtain ⟨c, hc, rfl⟩ := map_at hd
      have hcm := hg.2 c (List.mem_of_getElem? hc)
      refine tn 3 ?nd2 ?_
      case nd2 => exact nd
      refine exF ?_
      refine ev_meth (ns := ["order", "leads", "rows", "doors", "name"]) (CX := CX0) allow_mono (clK T κ.many) (mK_allow T κ.many) (ok_Steps_allow T) (hr.mono (by decide)) T.b_Steps_allow .nil (fun _ => .nil) pass0 ?_
      refine nm 1 ?_
      refine ⟨.ins (List.mem_append_right _ (.head _)), by decide +kernel, ?_⟩
      refine ea_c ?_
      refine nm 2 ?_
      refine ea_c ?_
      refine nm 3 ?_
      refine ea_nil ⟨_, _, SplitR _ _, κ.many, x, A, upTo κ i j, s, c, rfl, rfl, upTo_ok ok i j, hls, ?_, hso, hcm.1, hcm.2.symm, ?_⟩
      · intro p hp
        obtain ⟨t, ht⟩ := List.mem_iff_getElem?.mp hp
        have ht' : (κ.leads.l.mapIdx fun t p => (p.1, if t < i then p.2 else if t = i then p.2.take j else []))[t]? = some p := ht
        rw [List.getElem?_mapIdx] at ht'
        obtain ⟨p0, h0, e0⟩ := Option.map_eq_some_iff.mp ht'
        have hlen : p0.2.length ≤ 1000000 := Nat.le_trans (nd_len (good.st _ (List.mem_of_getElem? h0)).1 fun c hc => ((good.st _ (List.mem_of_getElem? h0)).2 c hc).1) ok.few
        rw [← e0]
        show (if t < i then p0.2 else if t = i then p0.2.take j else []).length < _
        split
        · omega
        · split
          · have := List.length_take_le' j p0.2
            omega
          · show 0 < _
            decide
      · rw [upTo_step ok hl hc hg.1]
        refine bl_perm List.perm_append_comm ?_
        exact nil ⟨_, rfl, rfl⟩
    rintro _ _ ⟨o3, rfl, rfl⟩
    rw [List.length_map]
    refine bl_cons ?_
    refine st_setOwn (ns := ["order", "leads", "rows", "doors", "name"]) (CX := CX0) ⟨set_mono, atK_set T κ.many, T.fn_Doors_setitem, ok_Doors_setitem T, T.b_Doors_setitem, pass0⟩ (nqK T κ.many) (hr.mono (by decide)) ?_ swaps_su
    refine ev_dgetK hu1 ?_
    refine ev_fld (clK T κ.many) (naD T κ.many) ?_
    refine nm 0 ?_
    refine xfm (.ref A0.e) (List.mem_append_left _ mx) rfl ?_
    refine nm 2 ?_
    refine ⟨kvD κ.doors.l, kN s, rp v, .ref (List.mem_append_left _ me), rfl, by rw [val_look, look_at dko hv]; rfl, ?_⟩
    refine nm 1 ?_
    refine nm 2 ?_
    have hdr := good.dr _ (List.mem_of_getElem? hv)
    refine ⟨.ins (List.mem_append_right _ (.head _)), _, _, SplitR _ _, κ.many, x, A, upTo κ i l.length, s, ⟨true, v.1.l⟩, ⟨true, v.2.l⟩, rfl, rfl, upTo_ok ok i _, hso, hdr.1.2, hdr.2.2, ?_⟩
    have e1 : (onceT ⟨true, v.1.l⟩, onceT ⟨true, v.2.l⟩) = v := by
      show (Tu.mk (onceL v.1.l), Tu.mk (onceL v.2.l)) = v
      rw [onceL_same _ hdr.1.1, onceL_same _ hdr.2.1]
    rw [e1, upTo_set ok hl hv]
    refine bl_perm List.perm_append_comm ?_
    exact nil ⟨_, _, rfl, rfl⟩
  rintro _ _ ⟨o2, o3, rfl, rfl⟩
  rw [List.length_map, upTo_all ok]
  exact ret (nm 1 q)
theorem mK_filled (T : Tx P K mg a) : ∀ m : Bool, Meth K (kC a m) "filled" a.f_Part_filled | true => ⟨T.at_Many_filled, T.fn_Part_filled, T.F_Part_filled.kp⟩ | false => ⟨T.at_Single_filled, T.fn_Part_filled, T.F_Part_filled.kp⟩
def sg_twin (a : Ad) (m : Bool) : SpG := fun ds μ Q _ => ∃ x0 A0 κ, ds = [.ref x0] ∧ μ = kindM (kC a κ.many) x0 A0 κ ∧ κ.many = m ∧ KGood κ ∧ A0.ls.length = κ.order.length ∧ ∀ x A, A.ls.length = κ.order.length → Q (.ref x) (kindM (kC a κ.many) x0 A0 κ ++ kindM (kC a κ.many) x A κ)
theorem twin_mono {m : Bool} : MonoG (sg_twin a m) := fun _ _ _ _ _ _ ⟨x0, A0, κ, h1, h2, h3, h4, h5, q⟩ w _ => ⟨x0, A0, κ, h1, h2, h3, h4, h5, fun x A h => w _ _ (q x A h)⟩
theorem ok_Single_twin (T : Tx P K mg a) : FnOk P w K mg base CX0 4 a.f_Single_twin a.fd_Single_twin ["self"] (spG (sgK K a) (sg_twin a false)) := by
  refine fund_ok T.F_Single_twin sc_Single_twin (fun ds μ Q Ex h => ?_) (fun cdv Ar outer s H E ds μ Q Ex hr h => ?_)
  · obtain ⟨x0, A0, κ, rfl, _⟩ := h
    rfl
  obtain ⟨x0, A0, κ, rfl, rfl, hm, good, hl0, q⟩ := h
  have ok := good.toKOk
  refine ret ?_
  refine ev_meth (ns := ["order", "leads", "rows", "doors", "name"]) (CX := CX0) filled_mono (clK T κ.many) (mK_filled T κ.many) (ok_Part_filled T) (hr.mono (by decide)) T.b_Part_filled .nil (fun _ => .nil) pass0 ?_
  refine nm 0 ?_
  refine ⟨.ins (.head _), by decide +kernel, ?_⟩
  refine ea_c ?_
  refine ev_permQ ?_
  refine ev_make (CX := CX0) Part_mono T.mk_Single (ok_Part_init T) (hr.mono (by decide)) (by rfl) T.mgC_Single T.b_Part_init .nil (fun _ => .nil) pass0 ?_
  refine ea_c ?_
  refine ev_fld (clK T κ.many) (naN T κ.many) ?_
  refine nm 0 ?_
  refine xfm (rp κ.name) (.head _) rfl ?_
  refine ea_c ?_
  refine ev_fld (clK T κ.many) (naO T κ.many) ?_
  refine nm 0 ?_
  refine xfm (.ref A0.o) (.head _) rfl ?_
  refine ea_nil ⟨_, [], Split.all _, fun x hx => ⟨false, x, κ.name, κ.order, _, _, rfl, rfl, .ref kindO, ok.few, ok.nd, fun A hA => ⟨rfl, kindM (kC a κ.many) x0 A0 κ ++ kindM (kC a κ.many) x A (newK κ.many κ.name κ.order), ?_, ?_⟩⟩⟩
  · rw [List.append_nil, hm]
    exact List.perm_append_comm
  refine ea_nil ⟨_, [], Split.all _, x0, A0, x, A, κ, rfl, by rw [hm], good, hl0, hA, ?_⟩
  dsimp only
  rw [List.append_nil]
  exact q x A hA
theorem ok_Many_twin (T : Tx P K mg a) : FnOk P w K mg base CX0 4 a.f_Many_twin a.fd_Many_twin ["self"] (spG (sgK K a) (sg_twin a true)) := by
  refine fund_ok T.F_Many_twin sc_Many_twin (fun ds μ Q Ex h => ?_) (fun cdv Ar outer s H E ds μ Q Ex hr h => ?_)
  · obtain ⟨x0, A0, κ, rfl, _⟩ := h
    rfl
  obtain ⟨x0, A0, κ, rfl, rfl, hm, good, hl0, q⟩ := h
  have ok := good.toKOk
  refine ret ?_
  refine ev_meth (ns := ["order", "leads", "rows", "doors", "name"]) (CX := CX0) filled_mono (clK T κ.many) (mK_filled T κ.many) (ok_Part_filled T) (hr.mono (by decide)) T.b_Part_filled .nil (fun _ => .nil) pass0 ?_
  refine nm 0 ?_
  refine ⟨.ins (.head _), by decide +kernel, ?_⟩
  refine ea_c ?_
  refine ev_permQ ?_
  refine ev_make (CX := CX0) Part_mono T.mk_Many (ok_Part_init T) (hr.mono (by decide)) (by rfl) T.mgC_Many T.b_Part_init .nil (fun _ => .nil) pass0 ?_
  refine ea_c ?_
  refine ev_fld (clK T κ.many) (naN T κ.many) ?_
  refine nm 0 ?_
  refine xfm (rp κ.name) (.head _) rfl ?_
  refine ea_c ?_
  refine ev_fld (clK T κ.many) (naO T κ.many) ?_
  refine nm 0 ?_
  refine xfm (.ref A0.o) (.head _) rfl ?_
  refine ea_nil ⟨_, [], Split.all _, fun x hx => ⟨true, x, κ.name, κ.order, _, _, rfl, rfl, .ref kindO, ok.few, ok.nd, fun A hA => ⟨rfl, kindM (kC a κ.many) x0 A0 κ ++ kindM (kC a κ.many) x A (newK κ.many κ.name κ.order), ?_, ?_⟩⟩⟩
  · rw [List.append_nil, hm]
    exact List.perm_append_comm
  refine ea_nil ⟨_, [], Split.all _, x0, A0, x, A, κ, rfl, by rw [hm], good, hl0, hA, ?_⟩
  dsimp only
  rw [List.append_nil]
  exact q x A hA
theorem FnOk.cx {CX : CXT} {k : Nat} {f : Addr} {fd : FuncData} {ps : List Str} {sp : Sp} (F : FnOk P w K mg base CX0 k f fd ps sp) : FnOk P w K mg base CX k f fd ps sp :=
  ⟨F.len, fun A outer s H args us vs Q E hr he hb hv hs => codeAny_mono (F.run A outer s H args us vs Q E hr he hb hv hs) fun r s' h => by
    cases r with
    | error e => exact False.elim h
    | ok fl => cases fl <;> exact h⟩
theorem FnOk.sg {CX : CXT} {k : Nat} {f : Addr} {fd : FuncData} {ps : List Str} {S : Sg0} {sg sg' : SpG} (F : FnOk P w K mg base CX k f fd ps (spG S sg)) (h : ∀ ds μ Q E, sg' ds μ Q E → sg ds μ Q E) : FnOk P w K mg base CX k f fd ps (spG S sg') :=
  F.imp fun vs H Q E ⟨F0, N0, ds, μ, r, rv, q⟩ => ⟨F0, N0, ds, μ, r, rv, h _ _ _ _ q⟩
section
variable {m : Option Bool}
theorem mK_from (T : Tx P K mg a) : ∀ m : Bool, Meth K (kC a m) "steps_from" a.f_Steps_steps_from | true => ⟨T.at_Many_steps_from, T.fn_Steps_steps_from, T.F_Steps_steps_from.kp⟩ | false => ⟨T.at_Single_steps_from, T.fn_Steps_steps_from, T.F_Steps_steps_from.kp⟩
theorem mK_stand (T : Tx P K mg a) : ∀ m : Bool, Meth K (kC a m) "standings" a.f_Steps_standings | true => ⟨T.at_Many_standings, T.fn_Steps_standings, T.F_Steps_standings.kp⟩ | false => ⟨T.at_Single_standings, T.fn_Steps_standings, T.F_Steps_standings.kp⟩
theorem atK_get (T : Tx P K mg a) : ∀ m : Bool, PySem.W.findIn K (.ref (kC a m)) "__getitem__" = some (some (.ref a.f_Doors_getitem)) | true => T.at_Many_getitem | false => T.at_Single_getitem
theorem atK_iter (T : Tx P K mg a) : ∀ m : Bool, PySem.W.findIn K (.ref (kC a m)) "__iter__" = some (some (.ref a.f_Doors_iter)) | true => T.at_Many_iter | false => T.at_Single_iter
theorem itK (T : Tx P K mg a) (m : Bool) : FnIt P w K mg base 1 a.f_Doors_iter (kC a m) "rows" := fnit_of (fund_fun T.F_Doors_iter) sc_Doors_iter T.b_Doors_iter rfl (clK T m) (naR T m) T.z_iter rfl rfl
def leadsK (κ : KindV) (s : Nm) : List Nm := (look κ.leads.l s).getD []
def fromK (κ : KindV) (s : Nm) : List Nm := κ.order.filter fun c => inb c (leadsK κ s)
abbrev Prs := Tu Nm × Tu Nm
def doorsK (κ : KindV) (s : Nm) : Prs := (look κ.doors.l s).getD (Tu.mk [], Tu.mk [])
theorem KOk.lead {κ : KindV} (ok : KOk κ) {ls : List Addr} (hl : ls.length = κ.order.length) {C x : Addr} {A : KAd} (hA : A.ls = ls) {s : Nm} (hs : s ∈ κ.order) :
    ∃ lb, valD (kvR κ.order ls) (kN s) = some (.ref lb) ∧ (lb, M.lst ((leadsK κ s).map rp)) ∈ kindM C x A κ := by
  obtain ⟨l, hl1, _⟩ := look_some (l := κ.leads.l) (k := s) (by rw [ok.le]; exact hs)
  obtain ⟨b, h1, h2, _⟩ := kvR_at (ls := ls) (by rw [ok.ll, hl]) hl1
  rw [ok.le] at h1
  refine ⟨b, h1, .tail _ (.tail _ (.tail _ (.tail _ ?_)))⟩
  unfold leadsK
  rw [hl1, hA]
  exact h2
def sg_from (a : Ad) : SpG := fun ds μ Q _ => ∃ (m : Option Bool) (x : Addr) (A : KAd) (κ : KindV) (s : Nm), ds = [.ref x, rp s] ∧ μ = kindM (kC a m) x A κ ∧ KOk κ ∧ A.ls.length = κ.order.length ∧ s ∈ κ.order ∧ Q (rp (Tu.mk (fromK κ s))) (kindM (kC a m) x A κ)
theorem from_mono : MonoG (sg_from a) := fun _ _ _ _ _ _ ⟨m, x, A, κ, s, h1, h2, h3, h4, h5, q⟩ w _ => ⟨m, x, A, κ, s, h1, h2, h3, h4, h5, w _ _ q⟩
theorem ok_Steps_from (T : Tx P K mg a) : FnOk P w K mg base CX0 3 a.f_Steps_steps_from a.fd_Steps_steps_from ["self", "standing"] (spG (sgK K a) (sg_from a)) := by
  refine fund_ok T.F_Steps_steps_from sc_Steps_steps_from (fun ds μ Q Ex h => ?_) (fun cdv Ar outer s H E ds μ Q Ex hr h => ?_)
  · obtain ⟨m, x, A, κ, s, rfl, _⟩ := h
    rfl
  obtain ⟨m, x, A, κ, b, rfl, rfl, ok, hls, hb, q⟩ := h
  have hu := hu_room hr
  have nd := sc_Steps_steps_from.nd
  have hu1 := Nat.lt_of_le_of_lt (Nat.add_le_add_left (show 1 ≤ 65 by decide) _) hu
  have cl := clK T m
  have nl := naL T m
  have no := naO T m
  refine ifb ?_
  refine et_dniK hu1 ?_
  refine nm 1 ?_
  refine ev_fld cl nl ?_
  refine nm 0 ?_
  refine xfm (.ref A.d) (.head _) rfl ?_
  refine ⟨_, kN b, .ref kindD, rfl, ?_⟩
  rw [valD_inb ok hls, inb_t.mpr hb]
  refine ⟨(fun h => nomatch h), fun _ => nil ?_⟩
  obtain ⟨lb, k1, mem⟩ := KOk.lead ok (C := kC a m) (x := x) (A := A) hls rfl hb
  refine ret ?_
  refine cT T.z_tuple b_tuple ?_
  refine ea_c ?_
  refine ev_lc (own := [("after", 2)]) (by rfl) ?nd3 (blkOk_by (N := N_Steps_steps_from) (sc := defScope s_Steps_steps_from) (by decide +kernel)) (by rfl) ?_
  case nd3 => exact nd
  refine ig_val ?_
  refine ev_fld cl no ?_
  refine nm 0 ?_
  refine xfm (.ref A.o) (.head _) rfl ?_
  refine it_m κ.order kindO ?_
  refine lcFM (β := Nm) (xs := κ.order) (f := fun y : Nm => rp y) (fun y : Nm => inb y (leadsK κ b)) (fun y : Nm => y) (by have := ok.few; omega) kindO (by
    intro y hy k
    refine tn 2 (by exact nd) ?_
    refine fun k => ts_one ?_
    refine et_cmp ?_
    refine nm 2 ?_
    refine ev_dgetK hu1 ?_
    refine ev_fld cl nl ?_
    refine nm 0 ?_
    refine xfm (.ref A.d) (.head _) rfl ?_
    refine nm 1 ?_
    refine ⟨_, kN b, _, .ref kindD, rfl, k1, ?_⟩
    refine op_in y (leadsK κ b) hu .val (IsL.mem mem) ?_
    refine xb ?_
    refine ⟨fun ht k => ?_, fun hf => ⟨hf, rfl⟩⟩
    refine nm 2 ?_
    exact ⟨rfl, ht, rfl⟩) ?_
  rw [List.map_id' (List.filter _ κ.order)]
  refine ea_nil ?_
  exact c_tuple (List.filter (fun y : Nm => inb y (leadsK κ b)) κ.order) (.l (.val _)) q
def sg_getK (a : Ad) : SpG := fun ds μ Q _ => ∃ (m : Option Bool) (x : Addr) (A : KAd) (κ : KindV) (s : Nm), ds = [.ref x, rp s] ∧ μ = kindM (kC a m) x A κ ∧ KOk κ ∧ s ∈ κ.order ∧ Q (rp (doorsK κ s)) (kindM (kC a m) x A κ)
theorem getK_mono : MonoG (sg_getK a) := fun _ _ _ _ _ _ ⟨m, x, A, κ, s, h1, h2, h3, h4, q⟩ w _ => ⟨m, x, A, κ, s, h1, h2, h3, h4, w _ _ q⟩
theorem KOk.door {κ : KindV} (ok : KOk κ) {s : Nm} (hs : s ∈ κ.order) : look κ.doors.l s = some (doorsK κ s) := by
  obtain ⟨y, hy, _⟩ := look_some (l := κ.doors.l) (k := s) (by rw [ok.dk]; exact hs)
  unfold doorsK
  rw [hy]
  rfl
theorem ok_Doors_getK (T : Tx P K mg a) : FnOk P w K mg base CX0 2 a.f_Doors_getitem a.fd_Doors_getitem ["self", "standing"] (spG (sgK K a) (sg_getK a)) := by
  refine fund_ok T.F_Doors_getitem sc_Doors_getitem (fun ds μ Q Ex h => ?_) (fun cdv Ar outer s H E ds μ Q Ex hr h => ?_)
  · obtain ⟨m, x, A, κ, s, rfl, _⟩ := h
    rfl
  obtain ⟨m, x, A, κ, b, rfl, rfl, ok, hb, q⟩ := h
  have hu := hu_room hr
  have hu1 := Nat.lt_of_le_of_lt (Nat.add_le_add_left (show 1 ≤ 65 by decide) _) hu
  have cl := clK T m
  have nd' := naD T m
  refine ifb ?_
  refine et_dniK hu1 ?_
  refine nm 1 ?_
  refine ev_fld cl nd' ?_
  refine nm 0 ?_
  refine xfm (.ref A.e) (.head _) rfl ?_
  refine ⟨_, kN b, .ref kindE, rfl, ?_⟩
  rw [val_look, KOk.door ok hb]
  refine ⟨(fun h => nomatch h), fun _ => nil ?_⟩
  refine ret ?_
  refine ev_dgetK hu1 ?_
  refine ev_fld cl nd' ?_
  refine nm 0 ?_
  refine xfm (.ref A.e) (.head _) rfl ?_
  refine nm 1 ?_
  exact ⟨_, kN b, rp (doorsK κ b), .ref kindE, rfl, by rw [val_look, KOk.door ok hb]; rfl, q⟩
def sg_stand (a : Ad) : SpG := fun ds μ Q _ => ∃ (m : Option Bool) (x : Addr) (A : KAd) (κ : KindV), ds = [.ref x] ∧ μ = kindM (kC a m) x A κ ∧ Q (rp (Tu.mk κ.order)) (kindM (kC a m) x A κ)
theorem stand_mono : MonoG (sg_stand a) := fun _ _ _ _ _ _ ⟨m, x, A, κ, h1, h2, q⟩ w _ => ⟨m, x, A, κ, h1, h2, w _ _ q⟩
theorem ok_Steps_stand (T : Tx P K mg a) : FnOk P w K mg base CX0 1 a.f_Steps_standings a.fd_Steps_standings ["self"] (spG (sgK K a) (sg_stand a)) := by
  refine fund_ok T.F_Steps_standings sc_Steps_standings (fun ds μ Q Ex h => ?_) (fun cdv Ar outer s H E ds μ Q Ex hr h => ?_)
  · obtain ⟨m, x, A, κ, rfl, _⟩ := h
    rfl
  obtain ⟨m, x, A, κ, rfl, rfl, q⟩ := h
  refine ret ?_
  refine cT T.z_tuple b_tuple ?_
  refine ea_c ?_
  refine ev_fld (clK T m) (naO T m) ?_
  refine nm 0 ?_
  refine xfm (.ref A.o) (.head _) rfl ?_
  refine ea_nil ?_
  exact c_tuple κ.order (.l (.ref kindO)) q
def smallK (κ : KindV) : Prop := κ.name.1.length + ((κ.order.map fun v : Nm => v.1.length).sum + 2 * κ.order.length) ≤ 900
def rowP (κ : KindV) : Nm := nmApp (nmApp κ.name clN) (nmJnD κ.order)
def sg_prow (a : Ad) : SpG := fun ds μ Q _ => ∃ (m : Option Bool) (x : Addr) (A : KAd) (κ : KindV), ds = [.ref x] ∧ μ = kindM (kC a m) x A κ ∧ smallK κ ∧ Q (rp (rowP κ)) (kindM (kC a m) x A κ)
theorem prow_mono : MonoG (sg_prow a) := fun _ _ _ _ _ _ ⟨m, x, A, κ, h1, h2, h3, q⟩ w _ => ⟨m, x, A, κ, h1, h2, h3, w _ _ q⟩
theorem jnD_len {l : List Nm} (h : (l.map fun v : Nm => v.1.length).sum + 2 * l.length ≤ 1000) : (nmJnD l).1.length ≤ (l.map fun v : Nm => v.1.length).sum + 2 * l.length := by
  rw [jnD_nm h, cs_len, jnD_cs]
  refine Nat.le_trans (joinD_len _) ?_
  rw [List.map_map, List.length_map]
  refine Nat.le_of_eq ?_
  congr 2
theorem ok_Part_row (T : Tx P K mg a) : FnOk P w K mg base CX0 2 a.f_Part_row a.fd_Part_row ["self"] (spG (sgK K a) (sg_prow a)) := by
  refine fund_ok T.F_Part_row sc_Part_row (fun ds μ Q Ex h => ?_) (fun cdv Ar outer s H E ds μ Q Ex hr h => ?_)
  · obtain ⟨m, x, A, κ, rfl, _⟩ := h
    rfl
  obtain ⟨m, x, A, κ, rfl, rfl, hz, q⟩ := h
  unfold smallK at hz
  have hj : (κ.order.map fun v : Nm => v.1.length).sum + 2 * κ.order.length ≤ 1000 := by omega
  have hl := jnD_len hj
  refine ret ?_
  refine ev_rowS ?_
  refine ev_fld (clK T m) (naN T m) ?_
  refine nm 0 ?_
  refine xfm (rp κ.name) (.head _) rfl ?_
  refine ⟨κ.name, rfl, ?_⟩
  refine ev_bm PySem.F.plainAttrs_str PySem.F.slot_str_join PySem.F.type_str_join ?_
  refine ev_str ?_
  refine ⟨rfl, ?_⟩
  refine ea_c ?_
  refine ev_fld (clK T m) (naO T m) ?_
  refine nm 0 ?_
  refine xfm (.ref A.o) (.head _) rfl ?_
  refine ea_nil ?_
  refine mt_joinDm κ.order kindO hj ?_
  exact ⟨nmJnD κ.order, rfl, by omega, q⟩
abbrev oneN : Nm := ⟨" (one)", by decide +kernel⟩
abbrev anyN : Nm := ⟨" (any number)", by decide +kernel⟩
def rowK (κ : KindV) : Nm := nmApp (rowP κ) (if κ.many then anyN else oneN)
theorem rowP_len {κ : KindV} (h : smallK κ) : (rowP κ).1.length ≤ 902 := by
  unfold smallK at h
  have hj : (κ.order.map fun v : Nm => v.1.length).sum + 2 * κ.order.length ≤ 1000 := by omega
  have hl := jnD_len hj
  have h1 : κ.name.1.length + clN.1.length ≤ 1000 := by rw [show clN.1.length = 2 from cl2_len]; omega
  have e1 : (nmApp κ.name clN).1 = κ.name.1 ++ cl2 := by unfold nmApp; rw [dif_pos h1]; rfl
  have h2 : (nmApp κ.name clN).1.length + (nmJnD κ.order).1.length ≤ 1000 := by rw [e1, str_app_len, cl2_len]; omega
  have e2 : (rowP κ).1 = (nmApp κ.name clN).1 ++ (nmJnD κ.order).1 := by
    show (nmApp (nmApp κ.name clN) (nmJnD κ.order)).1 = _
    generalize nmApp κ.name clN = u at h2
    unfold nmApp
    rw [dif_pos h2]
  rw [e2, str_app_len, e1, str_app_len, cl2_len]
  omega
def sg_krow (a : Ad) (b : Bool) : SpG := fun ds μ Q _ => ∃ (x : Addr) (A : KAd) (κ : KindV), ds = [.ref x] ∧ μ = kindM (kC a b) x A κ ∧ κ.many = b ∧ smallK κ ∧ Q (rp (rowK κ)) (kindM (kC a b) x A κ)
theorem krow_mono {b : Bool} : MonoG (sg_krow a b) := fun _ _ _ _ _ _ ⟨x, A, κ, h1, h2, h3, h4, q⟩ w _ => ⟨x, A, κ, h1, h2, h3, h4, w _ _ q⟩
theorem krow_to {b : Bool} {t : Nm} {m : Str} {f2 : Addr} (ht : (if b then anyN else oneN) = t) (hl : t.1.length ≤ 20) (G : SupC K (kC a b) (kC a b) m f2) (vs : List V) (H : Hp) (Q : VK) (E : XK) (h : spG (sgK K a) (sg_krow a b) vs H Q E) :
    ∃ a0 C dx fs, vs = [.ref a0] ∧ H a0 = some (.ins C dx fs) ∧ SupC K C (kC a b) m f2 ∧ spG (sgK K a) (sg_prow a) [.ref a0] H (fun v H' => ∃ y : Str, v = .str y ∧ y.length + t.1.length ≤ sizeLine ∧ Q (.str (y ++ t.1)) H') E := by
  obtain ⟨F, N, ds, μ, r, rv, x, A, κ, rfl, rfl, hm, hz, q⟩ := h
  cases rv with
  | cons rv rt =>
  cases rt
  cases rv
  obtain ⟨o, ho, ro⟩ := r.mem (x, M.ins (kC a b) [("order", .ref A.o), ("leads", .ref A.d), ("rows", rp κ.rows), ("doors", .ref A.e), ("name", rp κ.name)]) (.head _)
  cases ro with
  | @ins _ dx _ vs' _ =>
  refine ⟨x, _, dx, vs', rfl, ho, G, F, N, _, _, r, .cons (.ref x) .nil, some b, x, A, κ, rfl, rfl, hz, ?_⟩
  intro v H' r' rd
  cases rd
  have l1 := rowP_len hz
  refine ⟨_, rfl, ?_, ?_⟩
  · rw [sizeLine_eq]; omega
  · refine q _ H' r' ?_
    have e : (rp (rowK κ) : D) = .str ((rowP κ).1 ++ t.1) := by
      refine congrArg D.str ?_
      show (nmApp (rowP κ) (if κ.many then anyN else oneN)).1 = _
      rw [hm, ht]
      unfold nmApp
      rw [dif_pos (by omega)]
    rw [e]
    exact .str _
theorem ok_Single_row (T : Tx P K mg a) : FnOk P w K mg base CX0 3 a.f_Single_row a.fd_Single_row ["self"] (spG (sgK K a) (sg_krow a false)) :=
  sup_fn T.F_Single_row sc_Single_row rfl rfl rfl T.z_super rfl (ok_Part_row T) T.b_Part_row (krow_to (t := oneN) rfl (by decide +kernel) T.su_Single_row)
theorem ok_Many_row (T : Tx P K mg a) : FnOk P w K mg base CX0 3 a.f_Many_row a.fd_Many_row ["self"] (spG (sgK K a) (sg_krow a true)) :=
  sup_fn T.F_Many_row sc_Many_row rfl rfl rfl T.z_super rfl (ok_Part_row T) T.b_Part_row (krow_to (t := anyN) rfl (by decide +kernel) T.su_Many_row)
structure KaZ where
  m : Bool
  x : Addr
  A : KAd
abbrev kaM (a : Ad) (z : KaZ) (κ : KindV) : Mem := kindM (kC a z.m) z.x z.A κ
structure KaOk (a : Ad) (z : KaZ) (κ : KindV) : Prop extends KGood κ where
  ls : z.A.ls.length = κ.order.length
  mm : κ.many = z.m
theorem newK_good {b : Bool} {n : Nm} {st : List Nm} (hn : st.Nodup) (hl : st.length ≤ 1000000) : KGood (newK b n st) := by
  refine ⟨newK_ok hn hl, fun p hp => ?_, fun p hp => ?_⟩
  · obtain ⟨s, _, rfl⟩ := List.mem_map.mp hp
    exact ⟨List.nodup_nil, fun c h => by cases h⟩
  · obtain ⟨s, _, rfl⟩ := List.mem_map.mp hp
    exact ⟨⟨List.nodup_nil, Nat.zero_le _⟩, List.nodup_nil, Nat.zero_le _⟩
theorem KGood.allow {κ : KindV} (h : KGood κ) {b c : Nm} (hc : c ∈ κ.order) (hbc : b ≠ c) : KGood (allowF κ b c) := by
  refine ⟨allow_ok h.toKOk b c, fun p hp => ?_, h.dr⟩
  obtain ⟨q, hq, rfl⟩ := List.mem_map.mp hp
  obtain ⟨h1, h2⟩ := h.st q hq
  by_cases e : q.1 = b
  · rw [if_pos e]
    show (if c ∈ q.2 then q.2 else q.2 ++ [c]).Nodup ∧ ∀ c' ∈ (if c ∈ q.2 then q.2 else q.2 ++ [c]), c' ∈ κ.order ∧ c' ≠ q.1
    by_cases hcl : c ∈ q.2
    · rw [if_pos hcl]; exact ⟨h1, h2⟩
    · rw [if_neg hcl]
      refine ⟨List.nodup_append.mpr ⟨h1, by simp, fun u hu w hw => by rw [List.mem_singleton.mp hw]; exact fun z => hcl (z ▸ hu)⟩, fun u hu => ?_⟩
      rcases List.mem_append.mp hu with hu | hu
      · exact h2 u hu
      · rw [List.mem_singleton.mp hu]
        exact ⟨hc, fun z => hbc (by rw [z, e])⟩
  · rw [if_neg e]; exact ⟨h1, h2⟩
theorem KGood.fewL {κ : KindV} (h : KGood κ) : ∀ p ∈ κ.leads.l, p.2.length < 16777216 := fun p hp => by
  have h1 := nd_len (h.st p hp).1 fun c hc => ((h.st p hp).2 c hc).1
  have := h.toKOk.few
  omega
theorem KGood.set {κ : KindV} (h : KGood κ) {k : Nm} {n g : Sq Nm} (hn : okSq n) (hg : okSq g) : KGood (setF' κ k (onceT n, onceT g)) := by
  refine ⟨set_ok h.toKOk k _, h.st, fun p hp => ?_⟩
  obtain ⟨q, hq, rfl⟩ := List.mem_map.mp hp
  by_cases e : q.1 = k
  · rw [if_pos e]
    exact ⟨⟨onceL_nd _, Nat.le_trans (onceL_len _) hn⟩, onceL_nd _, Nat.le_trans (onceL_len _) hg⟩
  · rw [if_neg e]; exact h.dr q hq
theorem KaOk.allow {z : KaZ} {κ : KindV} (h : KaOk a z κ) {b c : Nm} (hc : c ∈ κ.order) (hbc : b ≠ c) : KaOk a z (allowF κ b c) := ⟨h.toKGood.allow hc hbc, h.ls, h.mm⟩
theorem KaOk.set {z : KaZ} {κ : KindV} (h : KaOk a z κ) {k : Nm} {n g : Sq Nm} (hn : okSq n) (hg : okSq g) : KaOk a z (setF' κ k (onceT n, onceT g)) := ⟨h.toKGood.set hn hg, h.ls, h.mm⟩
end
section
variable {X : Cx} {S : Sg} {Γ : Gm} {μ μ0 : Mem} {Q : QD} {z : KaZ} {κ : KindV}
theorem splApp : ∀ a b : Mem, Split (a ++ b) a b
  | [], b => Split.none b
  | _ :: a, b => .l (splApp a b)
abbrev kaFs (z : KaZ) (κ : KindV) : List (Str × D) := [("order", .ref z.A.o), ("leads", .ref z.A.d), ("rows", rp κ.rows), ("doors", .ref z.A.e), ("name", rp κ.name)]
theorem kaRcv {S : Sg0} (sp : Split μ (kaM a z κ) μ0) : Rcv S μ (.ref z.x) (kC a z.m) ["order", "leads", "rows", "doors", "name"] :=
  .ins (fs := kaFs z κ) ((sp.mem _).mpr (.inl (.head _)))
theorem ask_allowK (sp : Split μ (kaM a z κ) μ0) (ok : KaOk a z κ) {b c : Nm} (hb : b ∈ κ.order) (hc : c ∈ κ.order) (hbc : b ≠ c) (q : Q .non (kaM a z (allowF κ b c) ++ μ0)) : AskG S (sg_allow a) [.ref z.x, rp b, rp c] μ Q :=
  ⟨_, _, sp, some z.m, z.x, z.A, κ, b, c, rfl, rfl, ok.toKOk, ok.ls, ok.toKGood.fewL, hb, hc, hbc, q⟩
theorem ask_setK (sp : Split μ (kaM a z κ) μ0) (ok : KaOk a z κ) {k : Nm} {n g : Sq Nm} (hk : k ∈ κ.order) (hn : okSq n) (hg : okSq g) (q : Q .non (kaM a z (setF' κ k (onceT n, onceT g)) ++ μ0)) : AskG S (sg_set a) [.ref z.x, rp k, .tup [rp n, rp g]] μ Q :=
  ⟨_, _, sp, some z.m, z.x, z.A, κ, k, n, g, rfl, rfl, ok.toKOk, hk, hn, hg, q⟩
theorem ask_fromK (sp : Split μ (kaM a z κ) μ0) (ok : KaOk a z κ) {k : Nm} (hk : k ∈ κ.order) (q : Q (rp (Tu.mk (fromK κ k))) (kaM a z κ ++ μ0)) : AskG S (sg_from a) [.ref z.x, rp k] μ Q :=
  ⟨_, _, sp, some z.m, z.x, z.A, κ, k, rfl, rfl, ok.toKOk, ok.ls, hk, q⟩
theorem ask_getK (sp : Split μ (kaM a z κ) μ0) (ok : KaOk a z κ) {k : Nm} (hk : k ∈ κ.order) (q : Q (rp (doorsK κ k)) (kaM a z κ ++ μ0)) : AskG S (sg_getK a) [.ref z.x, rp k] μ Q :=
  ⟨_, _, sp, some z.m, z.x, z.A, κ, k, rfl, rfl, ok.toKOk, hk, q⟩
theorem ask_standK (sp : Split μ (kaM a z κ) μ0) (q : Q (rp (Tu.mk κ.order)) (kaM a z κ ++ μ0)) : AskG S (sg_stand a) [.ref z.x] μ Q :=
  ⟨_, _, sp, some z.m, z.x, z.A, κ, rfl, rfl, q⟩
theorem ask_fromK0 (ok : KaOk a z κ) {k : Nm} (hk : k ∈ κ.order) (q : Q (rp (Tu.mk (fromK κ k))) (kaM a z κ)) : AskG S (sg_from a) [.ref z.x, rp k] (kaM a z κ) Q := ask_fromK (Split.all _) ok hk (by rw [List.append_nil]; exact q)
theorem ask_getK0 (ok : KaOk a z κ) {k : Nm} (hk : k ∈ κ.order) (q : Q (rp (doorsK κ k)) (kaM a z κ)) : AskG S (sg_getK a) [.ref z.x, rp k] (kaM a z κ) Q := ask_getK (Split.all _) ok hk (by rw [List.append_nil]; exact q)
theorem ask_standK0 (q : Q (rp (Tu.mk κ.order)) (kaM a z κ)) : AskG S (sg_stand a) [.ref z.x] (kaM a z κ) Q := ask_standK (Split.all _) (by rw [List.append_nil]; exact q)
theorem ev_rowK (T : Tx P K mg a) {o : Expr} {pos apos : Pos} (hX : X.prog = P ∧ X.w = w ∧ X.K = K ∧ X.mg = mg ∧ X.base = base) (hS : S.toSg0 = sgK K a) (hr : Room 3 X.A) (ok : KaOk a z κ) (hz : smallK κ)
    (h : ∀ {Q : QD}, Q (.ref z.x) (kaM a z κ) → EvG X S o Γ (kaM a z κ) Q) (q : Q (rp (rowK κ)) (kaM a z κ))
    {pl : Sem Bool} (ht : eval (.Call (.Attribute o "row" apos) [] [] pos) X.env = (do
      let ov ← eval o X.env
      standAt apos.atName
      let (f, first) ← holding [ov] (getMethod ov "row" pl)
      callWith pos f first (backTo pos (starEach [] X.env)) (backToKw pos (keywordEach [] X.env))) := by rfl) : EvG X S (.Call (.Attribute o "row" apos) [] [] pos) Γ (kaM a z κ) Q := by
  obtain ⟨rfl, rfl, rfl, rfl, rfl⟩ := hX
  obtain ⟨m, x0, A0⟩ := z
  have hm : κ.many = m := ok.mm
  have rc : Rcv S.toSg0 (kaM a ⟨m, x0, A0⟩ κ) (.ref x0) (kC a m) ["order", "leads", "rows", "doors", "name"] := kaRcv (z := ⟨m, x0, A0⟩) (Split.all _)
  have q' : Q (rp (rowK κ)) (kaM a ⟨m, x0, A0⟩ κ ++ []) := by rw [List.append_nil]; exact q
  cases m with
  | true =>
    have F := ok_Many_row (w := X.w) (base := X.base) T
    rw [← hS] at F
    exact ev_meth0 (pl := pl) krow_mono T.cl_Many T.me_Many_row F hr T.b_Many_row .nil (fun _ => .nil) pass0 (h ⟨rc, by decide +kernel, _, _, Split.all _, x0, A0, κ, rfl, rfl, hm, hz, q'⟩) ht
  | false =>
    have F := ok_Single_row (w := X.w) (base := X.base) T
    rw [← hS] at F
    exact ev_meth0 (pl := pl) krow_mono T.cl_Single T.me_Single_row F hr T.b_Single_row .nil (fun _ => .nil) pass0 (h ⟨rc, by decide +kernel, _, _, Split.all _, x0, A0, κ, rfl, rfl, hm, hz, q'⟩) ht
theorem new_ka {b : Bool} {n : Nm} {st : List Nm} (hl : st.length ≤ 1000000) (hn : List.Nodup (α := Nm) st) (q : ∀ z : KaZ, z.m = b → KaOk a z (newK b n st) → Q (.ref z.x) (kaM a z (newK b n st) ++ μ)) :
    NewG S (kC a b) (sg_Part a) [rp n, rp st] μ Q :=
  ⟨[], μ, Split.none μ, fun x _ => ⟨some b, x, n, st, _, [], rfl, rfl, .val _, hl, hn, fun A hA => ⟨rfl, by
    have h := q ⟨b, x, A⟩ rfl ⟨newK_good hn hl, hA, rfl⟩
    rw [List.append_nil]
    exact h⟩⟩⟩
theorem ev_partRow (T : Tx P K mg a) {pos apos p cpos : Pos} {e1 e2 : Expr} (hX : X.prog = P ∧ X.w = w ∧ X.K = K ∧ X.mg = mg ∧ X.base = base) (hS : S.toSg0 = sgK K a) (hr : Room 4 X.A) {n : Nm} {st : List Nm}
    (h1 : ∀ {Q : QD}, Q (rp n) μ → EvG X S e1 Γ μ Q) (h2 : ∀ {Q : QD}, Q (rp st) μ → EvG X S e2 Γ μ Q) (hl : st.length ≤ 1000000) (hn : List.Nodup (α := Nm) st) (hz : smallK (newK true n st)) (q : Q (rp (rowP (newK true n st))) μ)
    (hg : Gl X "Part") (hn1 : notStar e1 = true := by rfl) (hn2 : notStar e2 = true := by rfl) (hse : starEach [e1, e2] X.env = (false, eval e1 X.env) :: starEach [e2] X.env := by rfl) (hpl : (backTo cpos (starEach [e2] X.env)).any (·.1) = false := by rfl)
    {pl : Sem Bool} (ht : eval (.Call (.Attribute (.Call (.Name "Part" p) [e1, e2] [] cpos) "row" apos) [] [] pos) X.env = (do
      let ov ← eval (.Call (.Name "Part" p) [e1, e2] [] cpos) X.env
      standAt apos.atName
      let (f, first) ← holding [ov] (getMethod ov "row" pl)
      callWith pos f first (backTo pos (starEach [] X.env)) (backToKw pos (keywordEach [] X.env))) := by rfl) : EvG X S (.Call (.Attribute (.Call (.Name "Part" p) [e1, e2] [] cpos) "row" apos) [] [] pos) Γ μ Q := by
  obtain ⟨rfl, rfl, rfl, rfl, rfl⟩ := hX
  have F := ok_Part_row (w := X.w) (base := X.base) T
  have F1 := ok_Part_init (w := X.w) (base := X.base) T
  rw [← hS] at F F1
  refine ev_lessQ (ev_meth0 (pl := pl) (ns := ["order", "leads", "rows", "doors", "name"]) (CX := CX0) prow_mono T.cl_Part ⟨T.at_Part_row, T.fn_Part_row, T.F_Part_row.kp⟩ F (hr.mono (by decide)) T.b_Part_row .nil (fun _ => .nil) pass0 ?_ ht)
  refine ev_make (CX := CX0) Part_mono T.mk_Part F1 (hr.mono (by decide)) hg T.mgC_Part T.b_Part_init .nil (fun _ => .nil) pass0 ?_ (by decide) hse hpl
  refine ea_c (h1 ?_) hn1
  refine ea_c (h2 ?_) hn2
  refine ea_nil ?_
  refine ⟨[], μ, Split.none μ, fun x _ => ⟨none, x, n, st, _, [], rfl, rfl, .val _, hl, hn, fun A hA => ⟨rfl, ?_⟩⟩⟩
  rw [List.append_nil]
  refine ⟨.ins (fs := [("order", .ref A.o), ("leads", .ref A.d), ("rows", rp st), ("doors", .ref A.e), ("name", rp n)]) (.head _), by decide +kernel, ?_⟩
  refine ⟨_, μ, splApp _ μ, none, x, A, newK true n st, rfl, rfl, hz, μ, ?_, q⟩
  exact List.sublist_append_right _ _
theorem ev_twinK (T : Tx P K mg a) {o : Expr} {pos apos : Pos} (hX : X.prog = P ∧ X.w = w ∧ X.K = K ∧ X.mg = mg ∧ X.base = base) (hS : S.toSg0 = sgK K a) (hr : Room 4 X.A) (sp : Split μ (kaM a z κ) μ0) (ok : KaOk a z κ)
    (h : ∀ {Q : QD}, Q (.ref z.x) μ → EvG X S o Γ μ Q) (q : ∀ z' : KaZ, z'.m = z.m → KaOk a z' κ → Q (.ref z'.x) (kaM a z' κ ++ (kaM a z κ ++ μ0)))
    {pl : Sem Bool} (ht : eval (.Call (.Attribute o "twin" apos) [] [] pos) X.env = (do
      let ov ← eval o X.env
      standAt apos.atName
      let (f, first) ← holding [ov] (getMethod ov "twin" pl)
      callWith pos f first (backTo pos (starEach [] X.env)) (backToKw pos (keywordEach [] X.env))) := by rfl) : EvG X S (.Call (.Attribute o "twin" apos) [] [] pos) Γ μ Q := by
  obtain ⟨rfl, rfl, rfl, rfl, rfl⟩ := hX
  obtain ⟨m, x0, A0⟩ := z
  have hm : κ.many = m := ok.mm
  have rc : Rcv S.toSg0 μ (.ref x0) (kC a m) ["order", "leads", "rows", "doors", "name"] := kaRcv (z := ⟨m, x0, A0⟩) sp
  have fin : ∀ {x : Addr} {A : KAd}, A.ls.length = κ.order.length → ∃ μ'', List.Perm ((kindM (kC a κ.many) x0 A0 κ ++ kindM (kC a κ.many) x A κ) ++ μ0) μ'' ∧ Q (.ref x) μ'' := fun {x A} hA => by
    refine ⟨_, ?_, q ⟨m, x, A⟩ rfl ⟨ok.toKGood, hA, hm⟩⟩
    rw [hm, ← List.append_assoc]
    exact List.Perm.append_right _ List.perm_append_comm
  replace sp : Split μ (kindM (kC a κ.many) x0 A0 κ) μ0 := by rw [hm]; exact sp
  refine ev_permQ ?_
  cases m with
  | true =>
    have F := ok_Many_twin (w := X.w) (base := X.base) T
    rw [← hS] at F
    exact ev_meth0 (pl := pl) twin_mono T.cl_Many ⟨T.at_Many_twin, T.fn_Many_twin, T.F_Many_twin.kp⟩ F hr T.b_Many_twin .nil (fun _ => .nil) pass0 (h ⟨rc, by decide +kernel, _, _, sp, x0, A0, κ, rfl, rfl, hm, ok.toKGood, ok.ls, fun x A hA => fin hA⟩) ht
  | false =>
    have F := ok_Single_twin (w := X.w) (base := X.base) T
    rw [← hS] at F
    exact ev_meth0 (pl := pl) twin_mono T.cl_Single ⟨T.at_Single_twin, T.fn_Single_twin, T.F_Single_twin.kp⟩ F hr T.b_Single_twin .nil (fun _ => .nil) pass0 (h ⟨rc, by decide +kernel, _, _, sp, x0, A0, κ, rfl, rfl, hm, ok.toKGood, ok.ls, fun x A hA => fin hA⟩) ht
end
abbrev RowK := T3 Nm (Tu Nm) Prs
abbrev DueK := T4 Nm (Tu Nm) (List RowK) Nm
def rowsK (κ : KindV) : List RowK := κ.order.map fun s => T3.mk s (Tu.mk (fromK κ s)) (doorsK κ s)
def toldK (κ : KindV) : DueK := T4.mk κ.name (Tu.mk κ.order) (rowsK κ) (rowK κ)
def m_law_told (κ : KindV) (b : Bool) (k : DueK → Prop) (kx : Unit → KX) : Prop := (b = !κ.many ∧ smallK κ) ∧ k (toldK κ)
abbrev sg_law_told (a : Ad) : SpG := sgU (A := KindV × Bool) (Z := KaZ) (ρ := DueK) (Y := Unit) (fun x z => [.ref z.x, rp x.2]) (fun x z μ => KaOk a z x.1 ∧ μ = kaM a z x.1) (fun x z r d μ => d = rp r ∧ KaOk a z x.1 ∧ μ = kaM a z x.1) (fun x z y μ => KaOk a z x.1 ∧ μ = kaM a z x.1) (fun x k kx => m_law_told x.1 x.2 k kx)
theorem ok_law_told (T : Tx P K mg a) : FnOk P w K mg base (L2.CX P w) 5 a.f_law_told a.fd_law_told ["_law_part", "_law_single"] (spG (sgK K a) (sg_law_told a)) := by
  refine fundU T.F_law_told sc_law_told (fun _ _ => rfl) (fun cdv Ar outer s H E x z μ k kx hr tk hm h => ?_)
  obtain ⟨κ, b⟩ := x
  obtain ⟨ok, rfl⟩ := hm
  obtain ⟨⟨hb, hz⟩, q⟩ := h
  replace hb : b = !κ.many := hb
  subst hb
  replace ok : KaOk a z κ := ok
  replace q : k (toldK κ) := q
  have hu := hu_room hr
  have nd := sc_law_told.nd
  obtain ⟨m, x, A⟩ := z
  have hm : κ.many = m := ok.mm
  subst hm
  have mx : (x, M.ins (kC a κ.many) (kaFs ⟨κ.many, x, A⟩ κ)) ∈ kaM a ⟨κ.many, x, A⟩ κ := .head _
  have iS : ∀ {X : Cx} {S : Sg} {Q : QD}, S.toSg0 = sgK K a → X.K = S.K → Q (.bl (!κ.many)) (kaM a ⟨κ.many, x, A⟩ κ) → CallG X S (.builtin "isinstance") [.ref x, .ref a.C_Single] (kaM a ⟨κ.many, x, A⟩ κ) Q := by
    intro X S Q hS hK k
    obtain ⟨S0, qx, wx⟩ := S
    cases hS
    cases hb : κ.many with
    | true =>
      rw [hb] at mx k
      exact isi (S := ⟨sgK K a, qx, wx⟩) (.ins T.is_Many mx) T.kx_Many_Single k hK
    | false =>
      rw [hb] at mx k
      exact isi (S := ⟨sgK K a, qx, wx⟩) (.ins T.is_Single mx) T.ki_Single k hK
  have iM : ∀ {X : Cx} {S : Sg} {Q : QD}, S.toSg0 = sgK K a → X.K = S.K → Q (.bl κ.many) (kaM a ⟨κ.many, x, A⟩ κ) → CallG X S (.builtin "isinstance") [.ref x, .ref a.C_Many] (kaM a ⟨κ.many, x, A⟩ κ) Q := by
    intro X S Q hS hK k
    obtain ⟨S0, qx, wx⟩ := S
    cases hS
    cases hb : κ.many with
    | true =>
      rw [hb] at mx k
      exact isi (S := ⟨sgK K a, qx, wx⟩) (.ins T.is_Many mx) T.ki_Many k hK
    | false =>
      rw [hb] at mx k
      exact isi (S := ⟨sgK K a, qx, wx⟩) (.ins T.is_Single mx) T.kx_Single_Many k hK
  have iP : ∀ {X : Cx} {S : Sg} {Q : QD}, S.toSg0 = sgK K a → X.K = S.K → Q (.bl true) (kaM a ⟨κ.many, x, A⟩ κ) → CallG X S (.builtin "isinstance") [.ref x, .ref a.C_Part] (kaM a ⟨κ.many, x, A⟩ κ) Q := by
    intro X S Q hS hK k
    obtain ⟨S0, qx, wx⟩ := S
    cases hS
    cases hb : κ.many with
    | true =>
      rw [hb] at mx k
      exact isi (S := ⟨sgK K a, qx, wx⟩) (.ins T.is_Many mx) T.kx_Many_Part k hK
    | false =>
      rw [hb] at mx k
      exact isi (S := ⟨sgK K a, qx, wx⟩) (.ins T.is_Single mx) T.kx_Single_Part k hK
  have iT : ∀ {X : Cx} {S : Sg} {Q : QD}, S.toSg0 = sgK K a → X.K = S.K → Q (.bl true) (kaM a ⟨κ.many, x, A⟩ κ) → CallG X S (.builtin "isinstance") [.ref x, .ref a.C_Steps] (kaM a ⟨κ.many, x, A⟩ κ) Q := by
    intro X S Q hS hK k
    obtain ⟨S0, qx, wx⟩ := S
    cases hS
    cases hb : κ.many with
    | true =>
      rw [hb] at mx k
      exact isi (S := ⟨sgK K a, qx, wx⟩) (.ins T.is_Many mx) T.kx_Many_Steps k hK
    | false =>
      rw [hb] at mx k
      exact isi (S := ⟨sgK K a, qx, wx⟩) (.ins T.is_Single mx) T.kx_Single_Steps k hK
  have iD : ∀ {X : Cx} {S : Sg} {Q : QD}, S.toSg0 = sgK K a → X.K = S.K → Q (.bl true) (kaM a ⟨κ.many, x, A⟩ κ) → CallG X S (.builtin "isinstance") [.ref x, .ref a.C_Doors] (kaM a ⟨κ.many, x, A⟩ κ) Q := by
    intro X S Q hS hK k
    obtain ⟨S0, qx, wx⟩ := S
    cases hS
    cases hb : κ.many with
    | true =>
      rw [hb] at mx k
      exact isi (S := ⟨sgK K a, qx, wx⟩) (.ins T.is_Many mx) T.kx_Many_Doors k hK
    | false =>
      rw [hb] at mx k
      exact isi (S := ⟨sgK K a, qx, wx⟩) (.ins T.is_Single mx) T.kx_Single_Doors k hK
  refine ifb ?_
  refine et_w ?_
  refine ew_or ?_
  refine et_cmp ?_
  refine cB T.z_isinstance b_isinstance ?_
  refine ea_c ?_
  refine nm 0 ?_
  refine ea_c ?_
  refine ev_globR (by rfl) T.mgC_Single ?_
  refine ea_nil ?_
  refine iS rfl rfl ?_
  refine nm 1 ?_
  refine op_ne (!κ.many) (!κ.many) hu .val .val ?_
  refine xb ?_
  refine ⟨fun _ => ?_, fun ht => absurd ht (by simp)⟩
  refine ew_or1 ?_
  refine et_cmp ?_
  refine cB T.z_isinstance b_isinstance ?_
  refine ea_c ?_
  refine nm 0 ?_
  refine ea_c ?_
  refine ev_globR (by rfl) T.mgC_Many ?_
  refine ea_nil ?_
  refine iM rfl rfl ?_
  refine nm 1 ?_
  refine op_eq κ.many (!κ.many) hu .val .val ?_
  refine xb ?_
  refine ⟨fun ht => absurd ht (by cases κ.many <;> decide), fun _ => ?_⟩
  refine nil ?_
  refine ifb ?_
  refine et_w ?_
  refine ew_or ?_
  refine et_not ?_
  refine et_val ?_
  refine cB T.z_isinstance b_isinstance ?_
  refine ea_c ?_
  refine nm 0 ?_
  refine ea_c ?_
  refine ev_globR (by rfl) T.mgC_Part ?_
  refine ea_nil ?_
  refine iP rfl rfl ?_
  refine xb ?_
  refine ⟨fun _ => ?_, fun ht => nomatch ht⟩
  refine ew_or ?_
  refine et_not ?_
  refine et_val ?_
  refine cB T.z_isinstance b_isinstance ?_
  refine ea_c ?_
  refine nm 0 ?_
  refine ea_c ?_
  refine ev_globR (by rfl) T.mgC_Steps ?_
  refine ea_nil ?_
  refine iT rfl rfl ?_
  refine xb ?_
  refine ⟨fun _ => ?_, fun ht => nomatch ht⟩
  refine ew_or1 ?_
  refine et_not ?_
  refine et_val ?_
  refine cB T.z_isinstance b_isinstance ?_
  refine ea_c ?_
  refine nm 0 ?_
  refine ea_c ?_
  refine ev_globR (by rfl) T.mgC_Doors ?_
  refine ea_nil ?_
  refine iD rfl rfl ?_
  refine xb ?_
  refine ⟨(fun ht => nomatch ht), fun _ => ?_⟩
  refine nil ?_
  refine bl_cons ?_
  refine st_setLc (i := 2) (own := [("_law_standing", 3)]) (by rfl) ?nd1 (by rfl) (by rfl) (swaps_yes (by rfl) (by rfl) (by rfl) (by decide +kernel)) (blkOk_by (N := N_law_told) (sc := defScope s_law_told) (by decide +kernel)) (by rfl) ?_
  case nd1 => exact nd
  refine ig_val ?_
  refine nm 0 ?_
  refine iv_own (l := List.map rp κ.rows) (by rfl) (itK T κ.many) (hr.mono (by decide)) (atK_iter T κ.many) T.fn_Doors_iter (.ins mx rfl) ?_
  have hro : κ.rows = κ.order := ok.toKOk.ro
  refine lcFM (β := RowK) (xs := κ.rows) (f := fun y : Nm => rp y) (fun _ : Nm => true) (fun y : Nm => T3.mk y (Tu.mk (fromK κ y)) (doorsK κ y)) (by rw [hro]; have := ok.toKOk.few; omega) trivial (by
    intro y hy kk
    have hy : y ∈ κ.order := by rw [← hro]; exact hy
    refine tn 3 (by exact nd) ?_
    refine fun k => ts_nil ⟨fun _ k => ?_, fun h => nomatch h⟩
    refine ev_tup ?_
    refine ea_c ?_
    refine nm 3 ?_
    refine ea_c ?_
    refine ev_meth (ns := ["order", "leads", "rows", "doors", "name"]) (CX := CX0) from_mono (clK T κ.many) (mK_from T κ.many) (ok_Steps_from T) (hr.mono (by decide)) T.b_Steps_steps_from .nil (fun _ => .nil) pass0 ?_
    refine nm 0 ?_
    refine ⟨kaRcv (Split.all _), by decide +kernel, ?_⟩
    refine ea_c ?_
    refine nm 3 ?_
    refine ea_nil ?_
    refine ask_fromK0 ok hy ?_
    refine ea_c ?_
    refine ev_ixOwn T.fi_Doors_getitem (hr.mono (by decide)) ⟨getK_mono, atK_get T κ.many, T.fn_Doors_getitem, ok_Doors_getK T, T.b_Doors_getitem, pass0⟩ ?_
    refine nm 0 ?_
    refine nm 3 ?_
    refine ⟨_, kaRcv (Split.all _), ?_⟩
    refine ask_getK0 ok hy ?_
    refine ea_few ?_
    exact ⟨rfl, rfl, rfl⟩) ?_
  rw [show List.filter (fun _ : Nm => true) κ.rows = κ.order from by rw [hro]; exact List.filter_eq_self.mpr fun _ _ => rfl]
  refine ret ?_
  refine ev_tup ?_
  refine ea_c ?_
  refine ev_fld (clK T κ.many) (naN T κ.many) ?_
  refine nm 0 ?_
  refine xfm (rp κ.name) mx rfl ?_
  refine ea_c ?_
  refine ev_meth0 (ns := ["order", "leads", "rows", "doors", "name"]) (CX := CX0) stand_mono (clK T κ.many) (mK_stand T κ.many) (ok_Steps_stand T) (hr.mono (by decide)) T.b_Steps_standings .nil (fun _ => .nil) pass0 ?_
  refine nm 0 ?_
  refine ⟨kaRcv (Split.all _), by decide +kernel, ?_⟩
  refine ask_standK0 ?_
  refine ea_c ?_
  refine nm 2 ?_
  refine ea_c ?_
  refine ev_rowK (z := ⟨κ.many, x, A⟩) (P := P) (w := w) (base := base) T ⟨rfl, rfl, rfl, rfl, rfl⟩ rfl (hr.mono (by decide)) ok hz (fun z => nm 0 z) ?_
  refine ea_few ?_
  exact ⟨toldK κ, _, List.Sublist.refl _, q, rfl, ok, rfl⟩
theorem ok_take (T : Tx P K mg a) : FnOk P w K mg base CX0 1 a.f_law_take a.fd_law_take ["_law_pool_here", "_law_size"] (spG (sgK K a) sg_take) := by
  refine fund_ok T.F_law_take sc_law_take (fun ds μ Q Ex h => ?_) (fun cdv A outer s H E ds μ Q Ex hr h => ?_)
  · obtain ⟨p, l, n, rfl, _⟩ := h
    rfl
  obtain ⟨p, l, n, rfl, rfl, hl, ⟨hn, hn2⟩, q⟩ := h
  have nd := sc_law_take.nd
  have hu := hu_room hr
  rcases hl with ⟨m, hm, rfl⟩ | ⟨x, k, cs, rfl, hx, hk, hc, hcl, hcs⟩
  · refine ifb <| et_cmp <| ev_callB rfl T.z_len b_len <| ea_cons <| nm 0 <| ea_nil <| cg_len rfl (.l (.ref (.head _))) <| ev_int <| og_eqI ⟨_, rfl, ⟨fun _ => ?_, fun h => by simp at h⟩⟩
    refine asg 2 nd <| ev_bin <| ev_callTy rfl T.z_int b_int <| ea_cons <| ev_ix (fun _ _ => rfl) <| nm 0 <| ev_int <| ig_l (.ref (.head _)) (by rfl) <| ea_nil <| cg_int <| nm 1 <| og_modI hn ?_
    refine setb <| ev_bin <| ev_ix (fun _ _ => rfl) <| nm 0 <| ev_int <| ig_l (.ref (.head _)) (by rfl) <| nm 1 <| og_fdivW (wide_div (b := 201) hn ?_ (by decide) (by decide)) <| tg_sub <| nm 0 <| ev_int ⟨p, _, _, 0, _, rfl, rfl, (by exact ixN0 (Nat.zero_lt_succ _)), .here, ?_⟩
    · have : (2 : Int) ^ 200 < 2 ^ 201 := by decide
      have e : ((2 ^ 201 : Nat) : Int) = 2 ^ 201 := by decide
      omega
    refine ret <| nm 2 <| q _ _ (Int.emod_nonneg _ (by omega)) (Int.emod_lt_of_pos _ hn) (.inl ⟨m / n, Int.ediv_nonneg hm (by omega), rfl⟩)
  · refine ifb <| et_cmp <| ev_callB rfl T.z_len b_len <| ea_cons <| nm 0 <| ea_nil <| cg_len rfl (.l (.ref (.head _))) <| ev_int <| og_eqI ⟨_, rfl, ⟨fun h => by simp at h, fun _ => nil ?_⟩⟩
    refine asg 3 nd <| ev_ix (fun _ _ => rfl) <| nm 0 <| ev_int <| ig_l (.ref (.head _)) (by rfl) ?_
    obtain ⟨c, hcm, hci⟩ := atI_mod hc hk
    have hc1 := hcs c hcm
    refine setb <| ev_bin <| ev_callTy rfl T.z_int b_int <| ea_cons <| ev_bin <| ev_bin <| ev_bin <| ev_ix (fun _ _ => rfl) <| nm 0 <| ev_int <| ig_l (.ref (.head _)) (by rfl) <| ev_int <| og_mulI (.inr ⟨by decide, by decide⟩) <| ev_ix (fun _ _ => rfl) <| nm 3 <| ev_bin <| ev_callTy rfl T.z_int b_int <| ea_cons <| ev_ix (fun _ _ => rfl) <| nm 0 <| ev_int <| ig_l (.ref (.head _)) (by rfl) <| ea_nil <| cg_int <| ev_callB rfl T.z_len b_len <| ea_cons <| nm 3 <| ea_nil <| cg_len rfl (.l (.val _)) <| og_modI ?_ <| ?_
    · rw [List.length_map]
      have hl : 0 < cs.length := List.length_pos_iff.mpr hc
      omega
    rw [List.length_map]
    refine ig_l (.val _) hci <| og_addI <| ev_int <| og_addI <| ea_nil <| cg_int <| ev_int <| og_modI (by decide) <| tg_sub <| nm 0 <| ev_int ⟨p, _, _, 0, _, rfl, rfl, (by exact ixN0 (Nat.zero_lt_succ _)), .here, ?_⟩
    have y1 : 0 ≤ (x * 75 + c + 74) % 65537 := Int.emod_nonneg _ (by decide)
    have y2 : (x * 75 + c + 74) % 65537 < 65537 := Int.emod_lt_of_pos _ (by decide)
    generalize (x * 75 + c + 74) % 65537 = y at y1 y2
    refine setb <| ev_bin <| ev_ix (fun _ _ => rfl) <| nm 0 <| ev_int <| ig_l (.ref (.head _)) (by rfl) <| ev_int <| og_addI <| tg_sub <| nm 0 <| ev_int ⟨p, _, _, 1, _, rfl, rfl, (by rfl), .here, ?_⟩
    have okl : PoolOk (((([.int x, .int k, .lst (cs.map D.int)] : List D).set 0 (.int y)).set 1 (.int (k + 1)))) := .inr ⟨y, k + 1, cs, rfl, ⟨y1, y2⟩, by omega, hc, hcl, hcs⟩
    refine ifb <| et_cmp <| nm 1 <| ev_int <| og_gtI ⟨_, rfl, ⟨fun _ => ?_, fun _ => nil ?_⟩⟩
    · refine ret <| ev_bin <| ev_callTy rfl T.z_int b_int <| ea_cons <| ev_bin <| ev_ix (fun _ _ => rfl) <| nm 0 <| ev_int <| ig_l (.ref (.head _)) (by rfl) <| ev_int <| og_powI ⟨by decide, by decide, by omega⟩ <| ea_nil <| cg_int <| nm 1 <| og_modI hn ?_
      exact q _ _ (Int.emod_nonneg _ (by omega)) (Int.emod_lt_of_pos _ hn) okl
    · refine ret <| ev_bin <| ev_callTy rfl T.z_int b_int <| ea_cons <| ev_ix (fun _ _ => rfl) <| nm 0 <| ev_int <| ig_l (.ref (.head _)) (by rfl) <| ea_nil <| cg_int <| nm 1 <| og_modI hn ?_
      exact q _ _ (Int.emod_nonneg _ (by omega)) (Int.emod_lt_of_pos _ hn) okl
theorem at0 {x : Int} {xs : List Int} : atI (x :: xs) 0 = some x := by
  unfold atI
  rw [ixN0 (n := (x :: xs).length) (Nat.zero_lt_succ _)]
  rfl
def sg_pool : SpG := fun ds μ Q _ => ∃ ns : List Int, ds = [.scr ns] ∧ ns.length ≤ 63 ∧ μ = [] ∧ ∀ p l, PoolOk l → Q (.ref p) [(p, .lst l)]
theorem pool_mono : MonoG sg_pool := fun _ _ _ _ _ _ ⟨ns, h1, h2, h3, q⟩ m _ => ⟨ns, h1, h2, h3, fun p l h => m _ _ (q p l h)⟩
theorem ok_pool (T : Tx P K mg a) : FnOk P w K mg base CX0 1 a.f_law_pool a.fd_law_pool ["_law_script"] (spG (sgK K a) sg_pool) := by
  refine fund_ok T.F_law_pool sc_law_pool (fun ds μ Q Ex h => ?_) (fun cdv A outer s H E ds μ Q Ex hr h => ?_)
  · obtain ⟨ns, rfl, _⟩ := h
    rfl
  obtain ⟨ns, rfl, hlen, rfl, q⟩ := h
  have nd := sc_law_pool.nd
  refine ifb <| et_cmp <| ev_callB rfl T.z_len b_len <| ea_cons <| nm 0 <| ea_nil <| cg_lenScr rfl <| ev_int <| og_eqI ⟨_, rfl, fun h => ?_, fun h => nil ?_⟩
  · exact ret <| ev_lstM <| ea_cons <| ev_int <| ea_few (fun p _ => q p _ (.inl ⟨0, by decide, rfl⟩))
  · cases ns with
    | nil => simp at h
    | cons n ns =>
    refine ifb <| et_cmp <| ev_ix (fun _ _ => rfl) <| nm 0 <| ev_int <| ig_scr (ns := n :: ns) rfl at0 <| ev_bin <| ev_int <| ev_int <| og_powI ⟨by decide, by decide, by decide⟩ <| og_geI ⟨_, rfl, fun h => ?_, fun _ => nil ?_⟩
    · refine ret <| ev_lstM <| ea_cons <| ev_bin <| ev_ix (fun _ _ => rfl) <| nm 0 <| ev_int <| ig_scr (ns := n :: ns) rfl at0 <| ev_bin <| ev_int <| ev_int <| og_powI ⟨by decide, by decide, by decide⟩ <| og_subI <| ea_few (fun p _ => q p _ (.inl ⟨_, ?_, rfl⟩))
      have := of_decide_eq_true h
      omega
    · refine ret <| ev_lstM <| ea_cons <| ev_int <| ea_cons <| ev_int <| ea_cons <| ev_lc (own := [("_law_cell", 1)]) rfl nd (blkOk_by (N := N_law_pool) (sc := defScope s_law_pool) (by decide +kernel)) rfl <| ig_val <| nm 0 <| iv_scr rfl ⟨fun i acc μ' => acc = (((n :: ns).take i).map (fun c => c % 65537)).map D.int ∧ μ' = [], ⟨rfl, rfl⟩, fun _ _ _ _ => trivial, ?_, ?_⟩
      · rintro i d acc _ hd ⟨rfl, rfl⟩ k
        obtain ⟨c, hc, rfl⟩ := map_at hd
        refine tn 1 nd fun k => ts_nil ⟨fun _ k => ?_, fun h => nomatch h⟩
        refine ev_bin <| ev_callTy rfl T.z_int b_int <| ea_cons <| nm 1 <| ea_nil <| cg_int <| ev_int <| og_modI (by decide) ⟨?_, ?_, rfl⟩
        · have h3 : ((n :: ns).take i).length ≤ (n :: ns).length := List.length_take_le' i _
          rw [List.length_map, List.length_map]
          omega
        · rw [take_snoc hc, List.map_append, List.map_append]
          rfl
      · rintro acc _ ⟨rfl, rfl⟩
        rw [List.length_map, List.take_length]
        refine ea_few (fun p _ => q p _ (.inr ⟨1, 0, (n :: ns).map (fun c => c % 65537), rfl, by decide, by decide, (by simp), (by rw [List.length_map]; exact hlen), fun c hc => ?_⟩))
        obtain ⟨x, _, rfl⟩ := List.mem_map.mp hc
        exact ⟨Int.emod_nonneg _ (by decide), Int.emod_lt_of_pos _ (by decide)⟩
section
variable {X : Cx} {e : Expr} {es : List Expr} {Γ : Gm} {μ : Mem} {Q : QD} {p pos : Pos}
theorem c_take (T : Tx P K mg a) (hX : X.prog = P ∧ X.w = w ∧ X.K = K ∧ X.mg = mg ∧ X.base = base) (hr : Room 1 X.A) (h : EvA X (sgK K a).nx (e :: es) Γ μ fun ds μ1 => AskG (sgK K a).nx sg_take ds μ1 Q) (hg : Gl X "_law_take" := by rfl)
    (he : starEach (e :: es) X.env = (false, eval e X.env) :: starEach es X.env := by rfl) (hpl : (backTo pos (starEach es X.env)).any (·.1) = false := by rfl) : EvG X (sgK K a).nx (.Call (.Name "_law_take" p) (e :: es) [] pos) Γ μ Q := by
  obtain ⟨rfl, rfl, rfl, rfl, rfl⟩ := hX
  exact ev_call take_mono (ok_take T) hr hg T.mg_law_take T.F_law_take.kp T.b_law_take .nil (fun _ => .nil) pass0 (by simpa only [List.append_nil] using h) (by decide) he hpl
end
def sg_base : SpG := fun ds μ Q _ => ∃ p l, ds = [.ref p] ∧ μ = [(p, .lst l)] ∧ PoolOk l ∧ ∀ z l', BaseOk z → PoolOk l' → Q (.str z) [(p, .lst l')]
theorem base_at {r : Int} (h1 : 0 ≤ r) (h2 : r < 24) : ∃ c, c ∈ baseC ∧ atI baseC r = some c := by
  obtain ⟨n, rfl⟩ := Int.eq_ofNat_of_zero_le h1
  have hn : n < baseC.length := by rw [base_len]; omega
  refine ⟨baseC[n], List.getElem_mem hn, ?_⟩
  have : ∀ n : Nat, n < 24 → atI baseC (n : Int) = baseC[n]? := by decide +kernel
  rw [this n (by omega)]
  exact List.getElem?_eq_getElem hn
theorem ok_base (T : Tx P K mg a) : FnOk P w K mg base CX0 2 a.f_law_base a.fd_law_base ["_law_pool_here"] (spG (sgK K a) sg_base) := by
  refine fund_ok T.F_law_base sc_law_base (fun ds μ Q Ex h => ?_) (fun cdv A outer s H E ds μ Q Ex hr h => ?_)
  · obtain ⟨p, l, rfl, _⟩ := h
    rfl
  obtain ⟨p, l, rfl, rfl, hl, q⟩ := h
  have nd := sc_law_base.nd
  refine asg 1 nd <| ev_str <| ret <| ev_bm PySem.F.plainAttrs_str PySem.F.slot_str_join PySem.F.type_str_join <| ev_str ⟨rfl, ea_cons <| ev_lc (own := [("_law_k", 2)]) rfl nd (blkOk_by (N := N_law_base) (sc := defScope s_law_base) (by decide +kernel)) rfl <| ig_range1 rfl T.z_range <| ea_cons <| c_take (P := P) (w := w) (base := base) T ⟨rfl, rfl, rfl, rfl, rfl⟩ hr <| ea_cons <| nm 0 <| ea_cons <| ev_int <| ea_nil <| ask_take hl (by decide) fun r l1 r1 r2 hl1 => ea_nil ⟨r, rfl, by omega, ?_⟩⟩
  refine ⟨fun i acc μ' => ∃ (xs : List Nat) (l' : List D), acc = (xs.map fun c => (⟨#[c]⟩ : Str)).map D.str ∧ xs.length = i ∧ (∀ c ∈ xs, c ∈ baseC) ∧ μ' = [(p, .lst l')] ∧ PoolOk l', ⟨[], l1, rfl, rfl, (fun c h => by cases h), rfl, hl1⟩, fun _ _ _ _ => trivial, ?_, ?_⟩
  · rintro i d acc _ hd ⟨xs, l', rfl, hxl, hxs, rfl, hl'⟩ k
    obtain ⟨hi, rfl⟩ := rng_get hd
    refine tn 2 nd fun k => ts_nil ⟨fun _ k => ?_, fun h => nomatch h⟩
    refine ev_ix (fun _ _ => rfl) <| nm 1 <| c_take (P := P) (w := w) (base := base) T ⟨rfl, rfl, rfl, rfl, rfl⟩ hr <| ea_cons <| nm 0 <| ea_cons <| ev_int <| ea_nil <| ask_take hl' (by decide) fun r2 l2 r1 r2 hl2 => ?_
    obtain ⟨c, hc, hat⟩ := base_at r1 r2
    refine ig_s (by decide +kernel) hat ⟨?_, xs ++ [c], l2, (by rw [List.map_append, List.map_append]; rfl), (by simp [hxl]), ?_, rfl, hl2⟩
    · rw [List.length_map, List.length_map, hxl]
      omega
    · intro d hd
      rcases List.mem_append.mp hd with h | h
      · exact hxs d h
      · cases List.mem_singleton.mp h
        exact hc
  · rintro acc _ ⟨xs, l', rfl, hxl, hxs, rfl, hl'⟩
    rw [rng_len] at hxl
    refine ea_nil (mt_join rfl ?_ (q _ _ ⟨?_, ?_⟩ hl'))
    · have e1 : ∀ xs : List Nat, ((xs.map fun c => (⟨#[c]⟩ : Str)).map (·.length)).sum = xs.length := fun xs => by
        induction xs with
        | nil => rfl
        | cons x xs ih => rw [List.map_cons, List.map_cons, List.sum_cons, ih, List.length_cons]; show 1 + xs.length = _; omega
      rw [e1, List.length_map]
      show _ + _ * 0 ≤ _
      omega
    · rw [join_cs]
      omega
    · rw [join_cs]
      exact hxs
def sg_name : SpG := fun ds μ Q _ => ∃ p l b k, ds = [.ref p, .str b, .int k] ∧ μ = [(p, .lst l)] ∧ PoolOk l ∧ BaseOk b ∧ (0 ≤ k ∧ k < 12) ∧ ∀ z l', NameOk k.toNat z → PoolOk l' → Q (.str z) [(p, .lst l')]
theorem mark_at {r : Int} (h1 : 0 ≤ r) (h2 : r < 12) : ∃ c, markC[r.toNat]? = some c ∧ atI markC r = some c := by
  obtain ⟨n, rfl⟩ := Int.eq_ofNat_of_zero_le h1
  have hn : n < markC.length := by rw [mark_len]; omega
  refine ⟨markC[n], by rw [Int.toNat_natCast]; exact List.getElem?_eq_getElem hn, ?_⟩
  have : ∀ n : Nat, n < 12 → atI markC (n : Int) = markC[n]? := by decide +kernel
  rw [this n (by omega)]
  exact List.getElem?_eq_getElem hn
theorem ok_name (T : Tx P K mg a) : FnOk P w K mg base CX0 2 a.f_law_name a.fd_law_name ["_law_pool_here", "_law_base_here", "_law_k"] (spG (sgK K a) sg_name) := by
  refine fund_ok T.F_law_name sc_law_name (fun ds μ Q Ex h => ?_) (fun cdv A outer s H E ds μ Q Ex hr h => ?_)
  · obtain ⟨p, l, b, k, rfl, _⟩ := h
    rfl
  obtain ⟨p, l, b, k, rfl, rfl, hl, hb, ⟨k1, k2⟩, q⟩ := h
  have nd := sc_law_name.nd
  have hbl : b.length ≤ 11 := by rw [cs_len]; exact hb.1
  refine asg 3 nd <| ev_sl <| nm 1 <| po_no <| po_so <| c_take (P := P) (w := w) (base := base) T ⟨rfl, rfl, rfl, rfl, rfl⟩ hr <| ea_cons <| nm 0 <| ea_cons <| ev_bin <| ev_callB rfl T.z_len b_len <| ea_cons <| nm 1 <| ea_nil <| cg_lenS (z := b) (by omega) <| ev_int <| og_addI <| ea_nil <| ask_take hl (by omega) fun r l1 r1 r2 hl1 => ?_
  obtain ⟨n, rfl⟩ := Int.eq_ofNat_of_zero_le r1
  refine ⟨_, rfl, slg_s (by omega) ?_⟩
  have ht : cs (cutS b none (some (n : Int))) = (cs b).take n := cutS_tl
  generalize cutS b none (some (n : Int)) = t at ht
  have htl : t.length ≤ 11 := by
    rw [cs_len, ht]
    exact Nat.le_trans (List.length_take_le' n _) hb.1
  refine asg 4 nd <| c_take (P := P) (w := w) (base := base) T ⟨rfl, rfl, rfl, rfl, rfl⟩ hr <| ea_cons <| nm 0 <| ea_cons <| ev_bin <| ev_callB rfl T.z_len b_len <| ea_cons <| nm 3 <| ea_nil <| cg_lenS (z := t) (by omega) <| ev_int <| og_addI <| ea_nil <| ask_take hl1 (by omega) fun m l2 m1 m2 hl2 => ?_
  obtain ⟨m, rfl⟩ := Int.eq_ofNat_of_zero_le m1
  obtain ⟨c, hc, hat⟩ := mark_at k1 k2
  have a1 : cs (cutS t none (some (m : Int))) = (cs t).take m := cutS_tl
  have a2 : cs (cutS t (some (m : Int)) none) = (cs t).drop m := cutS_hd
  have b1 : (cutS t none (some (m : Int))).length ≤ 11 := by
    rw [cs_len, a1]
    have := List.length_take_le' m (cs t)
    rw [cs_len] at htl
    omega
  have b2 : (cutS t (some (m : Int)) none).length ≤ 11 := by
    rw [cs_len, a2, List.length_drop]
    rw [cs_len] at htl
    omega
  have b3 : (cutS t none (some (m : Int)) ++ (⟨#[c]⟩ : Str)).length ≤ 12 := by
    rw [cs_len, cs_app, List.length_append, ← cs_len, cs_one]
    show _ + 1 ≤ _
    omega
  refine ret <| ev_bin <| ev_bin <| ev_sl <| nm 3 <| po_no <| po_so <| nm 4 ⟨_, rfl, slg_s (z := t) (by omega) <| ev_ix (fun _ _ => rfl) <| ev_str <| nm 2 <| ig_s (by decide +kernel) hat <| og_addS (x := cutS t none (some (m : Int))) (y := ⟨#[c]⟩) (by show _ + 1 ≤ _; omega) <| ev_sl <| nm 3 <| po_so <| nm 4 ⟨_, rfl, po_no <| slg_s (z := t) (by omega) <| og_addS (x := cutS t none (some (m : Int)) ++ ⟨#[c]⟩) (y := cutS t (some (m : Int)) none) (by omega) (q _ _ ⟨(cs t).take m, (cs t).drop m, c, ?_, hc, ?_, ?_⟩ hl2)⟩⟩
  · rw [cs_app, cs_app, a1, a2, cs_one, List.append_assoc]
    rfl
  · rw [List.take_append_drop, ht]
    exact fun c hc => hb.2 c (List.mem_of_mem_take hc)
  · rw [List.take_append_drop, ← cs_len]
    exact htl
abbrev BaseS := {z : Str // BaseOk z}
instance : Rpd BaseS := ⟨fun x => .str x.1⟩
theorem nm_of {k : Nat} {z : Str} (h : NameOk k z) : OkS z ∧ z.length ≤ 1000 := ⟨h.ok, Nat.le_trans h.len (by decide)⟩
def m_law_base (k : BaseS → Prop) : Prop := ∀ z, k z
def m_law_name (b : BaseS) (i : Int) (k : Nm → Prop) : Prop := (0 ≤ i ∧ i < 12) ∧ ∀ z : Nm, NameOk i.toNat z.1 → k z
abbrev sg_law_base : SpG := sgP (fun (_ : Unit) => []) (fun _ kk => m_law_base kk)
abbrev sg_law_name : SpG := sgP (fun (x : BaseS × Int) => [rp x.1, rp x.2]) (fun x kk => m_law_name x.1 x.2 kk)
theorem ok_law_base (T : Tx P K mg a) : FnOk P w K mg base CX0 2 a.f_law_base a.fd_law_base ["_law_pool_here"] (spG (sgK K a) sg_law_base) :=
  (ok_base T).imp fun vs H Q E ⟨F0, N, ds, μ, r, rv, _, p, l, k, e1, e2, hl, hm, q⟩ => ⟨F0, N, ds, μ, r, rv, p, l, e1, e2, hl, fun z l' hz hl' => q ⟨z, hz⟩ l' hl' (hm ⟨z, hz⟩)⟩
theorem ok_law_name (T : Tx P K mg a) : FnOk P w K mg base CX0 2 a.f_law_name a.fd_law_name ["_law_pool_here", "_law_base_here", "_law_k"] (spG (sgK K a) sg_law_name) :=
  (ok_name T).imp fun vs H Q E ⟨F0, N, ds, μ, r, rv, x, p, l, k, e1, e2, hl, hm, q⟩ => ⟨F0, N, ds, μ, r, rv, p, l, x.1.1, x.2, e1, e2, hl, x.1.2, hm.1, fun z l' hz hl' => q ⟨z, nm_of hz⟩ l' hl' (hm.2 ⟨z, nm_of hz⟩ hz)⟩
def m_law_some (v_rows : (List Nm)) (v_most : Int) (k : (List Nm) → Prop) : Prop :=
  drw (v_most + (1 : Int)) (fun r5 => (-(2 ^ 62) ≤ (v_most - r5) ∧ (v_most - r5) < 2 ^ 62) ∧ (forI (List.range (Int.toNat (v_most - r5))) ([] : (List Nm)) (fun (x9 : Nat) (s3 : (List Nm)) J4 => drw (v_rows.length : Int) (fun r12 => ∃ v13 : Nm, (atI v_rows r12 = some v13) ∧ (∃ J15 : (List Nm) → Prop, (((!(inb v13 s3)) = true → (s3.length < 16777216) ∧ (J15 (s3 ++ [v13]))) ∧ ((!(inb v13 s3)) = false → J15 s3)) ∧ ∀ (s16 : (List Nm)), J15 s16 → J4 s16))) (fun s3 => k s3)))
abbrev sg_law_some : SpG := sgP (fun (x : (List Nm) × Int) => [rp x.1, rp x.2]) (fun (x : (List Nm) × Int) kk => m_law_some x.1 x.2 kk)
theorem ok_law_some (T : Tx P K mg a) : FnOk P w K mg base CX0 2 a.f_law_some a.fd_law_some ["_law_pool_here", "_law_rows", "_law_most"] (spG (sgK K a) sg_law_some) := by
  refine fundP T.F_law_some sc_law_some (fun _ => rfl) (fun cdv A outer s H E x p l k hr hl h => ?_)
  obtain ⟨v_rows, v_most⟩ := x
  have hu := hu_room hr
  have nd := sc_law_some.nd
  replace h : m_law_some v_rows v_most k := h
  unfold m_law_some at h
  refine asgF 3 ?nd2 ?_
  case nd2 => exact nd
  refine ev_lstE ?_
  refine ea_nil ⟨few, fun y1 hy1 => ?_⟩
  refine forb PassesOwn.never ?_
  refine ir1 T.z_range ?_
  refine ea_c ?_
  refine ev_bin ?_
  refine nm 2 ?_
  refine cF take_mono (ok_take T) (hr.mono (by decide)) T.mg_law_take T.F_law_take.kp T.b_law_take pass0 ?_
  refine ea_c ?_
  refine nm 0 ?_
  refine ea_c ?_
  refine ev_bin ?_
  refine nm 2 ?_
  refine ev_int ?_
  refine og_addI ?_
  refine ea_nil ?_
  refine ask_t hl h fun r5 l hl h => ?_
  refine og_subI ?_
  refine ea_nil ?_
  obtain ⟨g6, h⟩ := h
  refine ⟨(v_most - r5), rfl, g6, forQ (xs := (List.range (Int.toNat (v_most - r5)))) (s0 := ([] : (List Nm))) (f := fun x9 : Nat => rp (x9 : Int)) h (fun (s3 : (List Nm)) Γ' μ' => ∃ (o7 o8 : Option D) (l : List D), PoolOk l ∧ Γ' = [some (.ref p), some (rp v_rows), some (rp v_most), some (.ref y1), o7, o8] ∧ μ' = [(p, .lst l), (y1, .lst (List.map rp s3))]) ⟨_, _, l, hl, rfl, rfl⟩ (fun _ _ _ _ => trivial) (fun x9 s3 J4 Γ' μ' hx r h => ?_) (fun s3 Γ' μ' r h => ?_)⟩
  · obtain ⟨o7, o8, l, hl, rfl, rfl⟩ := r
    refine tn 4 ?nd10 ?_
    case nd10 => exact nd
    refine asgF 5 ?nd11 ?_
    case nd11 => exact nd
    refine ixF ?_
    refine nm 1 ?_
    refine cF take_mono (ok_take T) (hr.mono (by decide)) T.mg_law_take T.F_law_take.kp T.b_law_take pass0 ?_
    refine ea_c ?_
    refine nm 0 ?_
    refine ea_c ?_
    refine cB T.z_len b_len ?_
    refine ea_c ?_
    refine nm 1 ?_
    refine ea_nil ?_
    refine c_len v_rows (isl rfl) ?_
    refine ea_nil ?_
    refine ask_t hl h fun r12 l hl h => ?_
    obtain ⟨v13, g14, h⟩ := h
    refine ix_l v_rows (isl rfl) g14 ?_
    obtain ⟨J15, h, hJ⟩ := h
    refine seqP (fun Γ' μ' => ∃ (s16 : (List Nm))  (l : List D), PoolOk l ∧ J15 s16 ∧ Γ' = [some (.ref p), some (rp v_rows), some (rp v_most), some (.ref y1), some (rp (x9 : Int)), some (rp v13)] ∧ μ' = [(p, .lst l), (y1, .lst (List.map rp s16))]) ?_ ?_
    · refine st_if ?_
      refine et_cmp ?_
      refine nm 5 ?_
      refine nm 3 ?_
      refine op_ni v13 s3 hu .val (IsL.mem (.tail _ (.head _))) ?_
      refine xb ?_
      refine ⟨fun ht => ?_, fun ht => ?_⟩
      · replace h := h.1 ht
        refine appF (α := Nm) (fun z => nm 3 z) (.tail _ (.head _)) ?_
        refine nm 5 ?_
        obtain ⟨g17, h⟩ := h
        refine ⟨s3, v13, _, rfl, g17, (.there (.here)), ?_⟩
        exact nil ⟨(s3 ++ [v13]), l, hl, h, rfl, rfl⟩
      · replace h := h.2 ht
        exact nil ⟨s3, l, hl, h, rfl, rfl⟩
    rintro _ _ ⟨s16, l, hl, hs, rfl, rfl⟩
    replace h := hJ s16 hs
    exact nil ⟨s16, h, ⟨_, _, l, hl, rfl, rfl⟩⟩
  obtain ⟨o7, o8, l, hl, rfl, rfl⟩ := r
  refine bl_frz (i := 3) rfl ((.there (.here))) ?_
  refine ret ?_
  refine nm 3 ?_
  refine ⟨s3, _, _, rfl, rfl, hl, h⟩
def m_law_filled (v_kind : KindV) (v_standings : (List Nm)) (v_doors : (List Nm)) (k : ((List (T3 Nm (Tu Nm) ((Tu Nm) × (Tu Nm)))) × KindV) → Prop) (kx : KindV → KX) : Prop :=
  forI v_standings (([] : (List (T3 Nm (Tu Nm) ((Tu Nm) × (Tu Nm))))), v_kind) (fun (x11 : Nm) (s3 : (List (T3 Nm (Tu Nm) ((Tu Nm) × (Tu Nm)))) × KindV) J4 => m_law_some v_standings (3 : Int) (fun r15 => (r15.length ≤ 16777216) ∧ (forI (List.filter (fun x16 : Nm => (!(decide (x16 = x11)))) r15) s3.2 (fun (x22 : Nm) (s18 : KindV) J19 => (x11 ∈ s18.order ∧ x22 ∈ s18.order ∧ x11 ≠ x22) ∧ (J19 (allowF s18 x11 x22))) (fun s18 => m_law_some v_doors (2 : Int) (fun r26 => m_law_some v_doors (2 : Int) (fun r28 => (x11 ∈ s18.order ∧ okSq (Sq.mk true (Tu.mk r26).l) ∧ okSq (Sq.mk true (Tu.mk r28).l)) ∧ ((v_standings.length ≤ 16777216) ∧ ((s3.1.length < 16777216) ∧ (J4 ((s3.1 ++ [(T3.mk x11 (Tu.mk (List.filter (fun x31 : Nm => inb x31 (List.filter (fun x16 : Nm => (!(decide (x16 = x11)))) r15)) v_standings)) ((Tu.mk r26), (Tu.mk r28)))]), (setF' s18 x11 (onceT (Sq.mk true (Tu.mk r26).l), onceT (Sq.mk true (Tu.mk r28).l))))))))))))) (fun s3 => k (s3.1, s3.2))
abbrev sg_law_filled (a : Ad) : SpG := sgU (A := KindV × (List Nm) × (List Nm)) (Z := Addr × KaZ) (ρ := (List (T3 Nm (Tu Nm) ((Tu Nm) × (Tu Nm)))) × KindV) (Y := KindV) (fun x z => [.ref z.1, .ref z.2.x, rp x.2.1, rp x.2.2]) (fun x z μ => ∃ l, PoolOk l ∧ KaOk a z.2 x.1 ∧ μ = ((z.1, .lst l) :: kaM a z.2 x.1)) (fun x z r d μ => ∃ l, PoolOk l ∧ d = rp r.1 ∧ KaOk a z.2 r.2 ∧ μ = ((z.1, .lst l) :: kaM a z.2 r.2)) (fun x z y μ => ∃ l, PoolOk l ∧ KaOk a z.2 y ∧ μ = ((z.1, .lst l) :: kaM a z.2 y)) (fun x k kx => m_law_filled x.1 x.2.1 x.2.2 k kx)
theorem ok_law_filled (T : Tx P K mg a) : FnOk P w K mg base (L2.CX P w) 4 a.f_law_filled a.fd_law_filled ["_law_pool_here", "_law_kind", "_law_standings", "_law_doors"] (spG (sgK K a) (sg_law_filled a)) := by
  refine fundU T.F_law_filled sc_law_filled (fun _ _ => rfl) (fun cdv A outer s H E x z μ k kx hr tk hm h => ?_)
  obtain ⟨v_kind, v_standings, v_doors⟩ := x
  obtain ⟨p, z1⟩ := z
  obtain ⟨l, hl, kz1, rfl⟩ := hm
  replace kz1 : KaOk a z1 v_kind := kz1
  have hu := hu_room hr
  have nd := sc_law_filled.nd
  replace h : m_law_filled v_kind v_standings v_doors k kx := h
  unfold m_law_filled at h
  refine bl_norm [some (.ref p), some (.ref z1.x), some (rp v_standings), some (rp v_doors), none, none, none, none, none, none] ((p, .lst l) :: (kaM a z1 v_kind)) ?_
  refine asgF 4 ?nd2 ?_
  case nd2 => exact nd
  refine ev_lstE ?_
  refine ea_nil ⟨few, fun y1 hy1 => ?_⟩
  refine bl_permR (Split.perm (.l ((Split.right (kaM a z1 v_kind) [(y1, .lst (List.map rp ([] : (List (T3 Nm (Tu Nm) ((Tu Nm) × (Tu Nm)))))))])))) ?_
  refine bl_norm _ ((p, .lst l) :: ((y1, .lst (List.map rp ([] : (List (T3 Nm (Tu Nm) ((Tu Nm) × (Tu Nm))))))) :: (kaM a z1 v_kind))) ?_
  refine bl_norm [some (.ref p), some (.ref z1.x), some (rp v_standings), some (rp v_doors), some (.ref y1), none, none, none, none, none] ((p, .lst l) :: ((y1, .lst (List.map rp ([] : (List (T3 Nm (Tu Nm) ((Tu Nm) × (Tu Nm))))))) :: (kaM a z1 v_kind))) ?_
  refine forb (passes_of rfl) ?_
  refine ig_val ?_
  refine nm 2 ?_
  refine it_l v_standings ?_
  refine forQ (xs := v_standings) (s0 := (([] : (List (T3 Nm (Tu Nm) ((Tu Nm) × (Tu Nm))))), v_kind)) (f := fun x11 : Nm => rp x11) h (fun (s3 : (List (T3 Nm (Tu Nm) ((Tu Nm) × (Tu Nm)))) × KindV) Γ' μ' => ∃ (o5 o6 o7 o8 o9 : Option D) (l : List D), PoolOk l ∧ KaOk a z1 s3.2 ∧ Γ' = [some (.ref p), some (.ref z1.x), some (rp v_standings), some (rp v_doors), some (.ref y1), o5, o6, o7, o8, o9] ∧ μ' = ((p, .lst l) :: ((y1, .lst (List.map rp s3.1)) :: (kaM a z1 s3.2)))) ⟨_, _, _, _, _, l, hl, kz1, rfl, rfl⟩ (fun _ _ _ _ => trivial) (fun x11 s3 J4 Γ' μ' hx r h => ?_) (fun s3 Γ' μ' r h => ?_)
  · obtain ⟨o5, o6, o7, o8, o9, l, hl, k10, rfl, rfl⟩ := r
    refine tn 5 ?nd12 ?_
    case nd12 => exact nd
    refine bl_norm [some (.ref p), some (.ref z1.x), some (rp v_standings), some (rp v_doors), some (.ref y1), some (rp x11), o6, o7, o8, o9] ((p, .lst l) :: ((y1, .lst (List.map rp s3.1)) :: (kaM a z1 s3.2))) ?_
    refine asgL 6 ?nd13 (swaps_cell (by rfl)) ?_
    case nd13 => exact nd
    refine ev_lc (own := [("_law_after", 7)]) (by rfl) ?nd14 (blkOk_by (N := N_law_filled) (sc := defScope s_law_filled) (by decide +kernel)) (by rfl) ?_
    case nd14 => exact nd
    refine ig_val ?_
    refine cF sgP_mono (ok_law_some T) (hr.mono (by decide)) T.mg_law_some T.F_law_some.kp T.b_law_some pass0 ?_
    refine ea_c ?_
    refine nm 0 ?_
    refine ea_c ?_
    refine nm 2 ?_
    refine ea_c ?_
    refine ev_int ?_
    refine ea_nil ?_
    refine ask_p (v_standings, (3 : Int)) rfl hl h (fun r15 l hl h => ?_)
    refine it_l r15 ?_
    obtain ⟨g17, h⟩ := h
    refine lcFM (β := Nm) (xs := r15) (f := fun x16 : Nm => rp x16) (fun x16 : Nm => (!(decide (x16 = x11)))) (fun x16 : Nm => x16) g17 (trivial) (by intro x16 hx k; refine tn 7 (by exact nd) ?_; refine fun k => ts_one ?_; refine et_cmp ?_; refine nm 7 ?_; refine nm 5 ?_; refine op_ne x16 x11 hu .val .val ?_; refine xb ?_; refine ⟨fun ht k => ?_, fun hf => ⟨hf, rfl⟩⟩; refine nm 7 ?_; exact ⟨rfl, ht, rfl⟩) ?_
    rw [show ∀ l : List Nm, List.map (fun x16 : Nm => x16) l = l from fun l => List.map_id' l]
    refine bl_norm [some (.ref p), some (.ref z1.x), some (rp v_standings), some (rp v_doors), some (.ref y1), some (rp x11), some (rp (List.filter (fun x16 : Nm => (!(decide (x16 = x11)))) r15)), o7, o8, o9] ((p, .lst l) :: ((y1, .lst (List.map rp s3.1)) :: (kaM a z1 s3.2))) ?_
    refine forb (passes_of rfl) ?_
    refine ig_val ?_
    refine nm 6 ?_
    refine it_l (List.filter (fun x16 : Nm => (!(decide (x16 = x11)))) r15) ?_
    refine forQ (xs := (List.filter (fun x16 : Nm => (!(decide (x16 = x11)))) r15)) (s0 := s3.2) (f := fun x22 : Nm => rp x22) h (fun (s18 : KindV) Γ' μ' => ∃ (o20 : Option D) (l : List D), PoolOk l ∧ KaOk a z1 s18 ∧ Γ' = [some (.ref p), some (.ref z1.x), some (rp v_standings), some (rp v_doors), some (.ref y1), some (rp x11), some (rp (List.filter (fun x16 : Nm => (!(decide (x16 = x11)))) r15)), o20, o8, o9] ∧ μ' = ((p, .lst l) :: ((y1, .lst (List.map rp s3.1)) :: (kaM a z1 s18)))) ⟨_, l, hl, k10, rfl, rfl⟩ (fun _ _ _ _ => trivial) (fun x22 s18 J19 Γ' μ' hx r h => ?_) (fun s18 Γ' μ' r h => ?_)
    · obtain ⟨o20, l, hl, k21, rfl, rfl⟩ := r
      refine tn 7 ?nd23 ?_
      case nd23 => exact nd
      refine bl_norm [some (.ref p), some (.ref z1.x), some (rp v_standings), some (rp v_doors), some (.ref y1), some (rp x11), some (rp (List.filter (fun x16 : Nm => (!(decide (x16 = x11)))) r15)), some (rp x22), o8, o9] ((p, .lst l) :: ((y1, .lst (List.map rp s3.1)) :: (kaM a z1 s18))) ?_
      refine exF ?_
      refine ev_meth (ns := ["order", "leads", "rows", "doors", "name"]) (CX := CX0) allow_mono (clK T z1.m) (mK_allow T z1.m) (ok_Steps_allow T) (hr.mono (by decide)) T.b_Steps_allow .nil (fun _ => .nil) pass0 ?_
      refine nm 1 ?_
      refine And.intro (kaRcv (.r (.r ((Split.all (kaM a z1 s18)))))) ?_
      refine And.intro (by decide +kernel) ?_
      refine ea_c ?_
      refine nm 5 ?_
      refine ea_c ?_
      refine nm 7 ?_
      obtain ⟨g24, h⟩ := h
      refine ea_nil (ask_allowK (.r (.r ((Split.all (kaM a z1 s18))))) k21 g24.1 g24.2.1 g24.2.2 ?_)
      refine bl_permR (Split.perm ((Split.right (kaM a z1 (allowF s18 x11 x22)) [(p, .lst l), (y1, .lst (List.map rp s3.1))]))) ?_
      refine bl_norm _ ((p, .lst l) :: ((y1, .lst (List.map rp s3.1)) :: (kaM a z1 (allowF s18 x11 x22)))) ?_
      exact nil ⟨(allowF s18 x11 x22), h, ⟨_, l, hl, (k21.allow g24.2.1 g24.2.2), rfl, rfl⟩⟩
    obtain ⟨o20, l, hl, k21, rfl, rfl⟩ := r
    refine bl_norm [some (.ref p), some (.ref z1.x), some (rp v_standings), some (rp v_doors), some (.ref y1), some (rp x11), some (rp (List.filter (fun x16 : Nm => (!(decide (x16 = x11)))) r15)), o20, o8, o9] ((p, .lst l) :: ((y1, .lst (List.map rp s3.1)) :: (kaM a z1 s18))) ?_
    refine asgF 8 ?nd25 ?_
    case nd25 => exact nd
    refine cT T.z_tuple b_tuple ?_
    refine ea_c ?_
    refine cF sgP_mono (ok_law_some T) (hr.mono (by decide)) T.mg_law_some T.F_law_some.kp T.b_law_some pass0 ?_
    refine ea_c ?_
    refine nm 0 ?_
    refine ea_c ?_
    refine nm 3 ?_
    refine ea_c ?_
    refine ev_int ?_
    refine ea_nil ?_
    refine ask_p (v_doors, (2 : Int)) rfl hl h (fun r26 l hl h => ?_)
    refine ea_nil ?_
    refine c_tuple r26 (.l (.val _)) ?_
    refine bl_norm [some (.ref p), some (.ref z1.x), some (rp v_standings), some (rp v_doors), some (.ref y1), some (rp x11), some (rp (List.filter (fun x16 : Nm => (!(decide (x16 = x11)))) r15)), o20, some (rp (Tu.mk r26)), o9] ((p, .lst l) :: ((y1, .lst (List.map rp s3.1)) :: (kaM a z1 s18))) ?_
    refine asgF 9 ?nd27 ?_
    case nd27 => exact nd
    refine cT T.z_tuple b_tuple ?_
    refine ea_c ?_
    refine cF sgP_mono (ok_law_some T) (hr.mono (by decide)) T.mg_law_some T.F_law_some.kp T.b_law_some pass0 ?_
    refine ea_c ?_
    refine nm 0 ?_
    refine ea_c ?_
    refine nm 3 ?_
    refine ea_c ?_
    refine ev_int ?_
    refine ea_nil ?_
    refine ask_p (v_doors, (2 : Int)) rfl hl h (fun r28 l hl h => ?_)
    refine ea_nil ?_
    refine c_tuple r28 (.l (.val _)) ?_
    refine bl_cons ?_
    refine st_setOwn (ns := ["order", "leads", "rows", "doors", "name"]) (CX := CX0) ⟨set_mono, atK_set T z1.m, T.fn_Doors_setitem, ok_Doors_setitem T, T.b_Doors_setitem, pass0⟩ (nqK T z1.m) (hr.mono (by decide)) (hs := swaps_su) ?_
    refine ev_tup ?_
    refine ea_c ?_
    refine nm 8 ?_
    refine ea_c ?_
    refine nm 9 ?_
    refine ea_few ?_
    refine nm 1 ?_
    refine nm 5 ?_
    obtain ⟨g29, h⟩ := h
    refine ⟨kaRcv (.r (.r ((Split.all (kaM a z1 s18))))), ask_setK (n := (Sq.mk true (Tu.mk r26).l)) (g := (Sq.mk true (Tu.mk r28).l)) (.r (.r ((Split.all (kaM a z1 s18))))) k21 g29.1 g29.2.1 g29.2.2 ?_⟩
    refine bl_permR (Split.perm ((Split.right (kaM a z1 (setF' s18 x11 (onceT (Sq.mk true (Tu.mk r26).l), onceT (Sq.mk true (Tu.mk r28).l)))) [(p, .lst l), (y1, .lst (List.map rp s3.1))]))) ?_
    refine bl_norm _ ((p, .lst l) :: ((y1, .lst (List.map rp s3.1)) :: (kaM a z1 (setF' s18 x11 (onceT (Sq.mk true (Tu.mk r26).l), onceT (Sq.mk true (Tu.mk r28).l)))))) ?_
    refine bl_norm [some (.ref p), some (.ref z1.x), some (rp v_standings), some (rp v_doors), some (.ref y1), some (rp x11), some (rp (List.filter (fun x16 : Nm => (!(decide (x16 = x11)))) r15)), o20, some (rp (Tu.mk r26)), some (rp (Tu.mk r28))] ((p, .lst l) :: ((y1, .lst (List.map rp s3.1)) :: (kaM a z1 (setF' s18 x11 (onceT (Sq.mk true (Tu.mk r26).l), onceT (Sq.mk true (Tu.mk r28).l)))))) ?_
    refine appF (α := (T3 Nm (Tu Nm) ((Tu Nm) × (Tu Nm)))) (fun z => nm 4 z) (.tail _ (.head _)) ?_
    refine ev_tup ?_
    refine ea_c ?_
    refine nm 5 ?_
    refine ea_c ?_
    refine cT T.z_tuple b_tuple ?_
    refine ea_c ?_
    refine ev_lc (own := [("_law_after", 7)]) (by rfl) ?nd30 (blkOk_by (N := N_law_filled) (sc := defScope s_law_filled) (by decide +kernel)) (by rfl) ?_
    case nd30 => exact nd
    refine ig_val ?_
    refine nm 2 ?_
    refine it_l v_standings ?_
    obtain ⟨g32, h⟩ := h
    refine lcFM (β := Nm) (xs := v_standings) (f := fun x31 : Nm => rp x31) (fun x31 : Nm => inb x31 (List.filter (fun x16 : Nm => (!(decide (x16 = x11)))) r15)) (fun x31 : Nm => x31) g32 (trivial) (by intro x31 hx k; refine tn 7 (by exact nd) ?_; refine fun k => ts_one ?_; refine et_cmp ?_; refine nm 7 ?_; refine nm 6 ?_; refine op_in x31 (List.filter (fun x16 : Nm => (!(decide (x16 = x11)))) r15) hu .val (isl rfl) ?_; refine xb ?_; refine ⟨fun ht k => ?_, fun hf => ⟨hf, rfl⟩⟩; refine nm 7 ?_; exact ⟨rfl, ht, rfl⟩) ?_
    rw [show ∀ l : List Nm, List.map (fun x31 : Nm => x31) l = l from fun l => List.map_id' l]
    refine ea_nil ?_
    refine c_tuple (List.filter (fun x31 : Nm => inb x31 (List.filter (fun x16 : Nm => (!(decide (x16 = x11)))) r15)) v_standings) (.l (.val _)) ?_
    refine ea_c ?_
    refine ev_tup ?_
    refine ea_c ?_
    refine nm 8 ?_
    refine ea_c ?_
    refine nm 9 ?_
    refine ea_few ?_
    refine ea_few ?_
    obtain ⟨g33, h⟩ := h
    refine ⟨s3.1, (T3.mk x11 (Tu.mk (List.filter (fun x31 : Nm => inb x31 (List.filter (fun x16 : Nm => (!(decide (x16 = x11)))) r15)) v_standings)) ((Tu.mk r26), (Tu.mk r28))), _, rfl, g33, (.there (.here)), ?_⟩
    exact nil ⟨((s3.1 ++ [(T3.mk x11 (Tu.mk (List.filter (fun x31 : Nm => inb x31 (List.filter (fun x16 : Nm => (!(decide (x16 = x11)))) r15)) v_standings)) ((Tu.mk r26), (Tu.mk r28)))]), (setF' s18 x11 (onceT (Sq.mk true (Tu.mk r26).l), onceT (Sq.mk true (Tu.mk r28).l)))), h, ⟨_, _, _, _, _, l, hl, (k21.set (k := x11) g29.2.1 g29.2.2), rfl, rfl⟩⟩
  obtain ⟨o5, o6, o7, o8, o9, l, hl, k10, rfl, rfl⟩ := r
  refine bl_frz (i := 4) rfl ((.there (.here))) ?_
  refine bl_norm [some (.ref p), some (.ref z1.x), some (rp v_standings), some (rp v_doors), some (rp s3.1), o5, o6, o7, o8, o9] ((p, .lst l) :: (kaM a z1 s3.2)) ?_
  refine ret ?_
  refine nm 4 ?_
  refine ⟨(s3.1, s3.2), _, (.cons_cons _ (List.Sublist.refl _)), h, l, hl, rfl, k10, rfl⟩
def m_law_apart (v_changed : KindV) (v_other : KindV) (v_single : Bool) (v_due : (T4 Nm (Tu Nm) (List (T3 Nm (Tu Nm) ((Tu Nm) × (Tu Nm)))) Nm)) (v_strange : Nm) (k : (Bool × KindV × KindV) → Prop) (kx : (KindV × KindV) → KX) : Prop :=
  ∃ J4 : (List (T3 Nm (Tu Nm) ((Tu Nm) × (Tu Nm)))) → KindV → Prop, ((decide ((1 : Int) < (v_due.c.length : Int)) = true → ∃ v10 : Nm, (atI v_due.b.l (-(1 : Int)) = some v10) ∧ (∃ v12 : Nm, (atI v_due.b.l (0 : Int) = some v12) ∧ ((v10 ∈ v_changed.order ∧ v12 ∈ v_changed.order ∧ v10 ≠ v12) ∧ (lcI v_due.b.l (fun (x17 : Nm) J18 => ∃ v21 : Nm, (atI v_due.b.l (0 : Int) = some v21) ∧ ((decide (x17 = v21) = true → J18 (some x17)) ∧ (decide (x17 = v21) = false → (∃ v23 : (T3 Nm (Tu Nm) ((Tu Nm) × (Tu Nm))), (atI v_due.c (-(1 : Int)) = some v23) ∧ (((inb x17 v23.b.l = true → J18 (some x17)) ∧ (inb x17 v23.b.l = false → J18 none))))))) (fun acc19 : List Nm => ∃ v25 : Nm, (atI v_due.b.l (-(1 : Int)) = some v25) ∧ (∃ v27 : (T3 Nm (Tu Nm) ((Tu Nm) × (Tu Nm))), (atI v_due.c (-(1 : Int)) = some v27) ∧ (∃ j29 : Nat, ixN v_due.c.length (-(1 : Int)) = some j29 ∧ (J4 (List.set v_due.c j29 (T3.mk v25 (Tu.mk acc19) v27.c)) (allowF v_changed v10 v12))))))))) ∧ (decide ((1 : Int) < (v_due.c.length : Int)) = false → J4 v_due.c v_changed)) ∧ ∀ (s5 : (List (T3 Nm (Tu Nm) ((Tu Nm) × (Tu Nm))))) (s6 : KindV), J4 s5 s6 → ∃ v31 : Nm, (atI v_due.b.l (0 : Int) = some v31) ∧ ((v31 ∈ s6.order ∧ okSq (Sq.mk false ([v_strange])) ∧ okSq (Sq.mk true (Tu.mk [v_strange, v_strange]).l)) ∧ (∃ v34 : Nm, (atI v_due.b.l (0 : Int) = some v34) ∧ (∃ v36 : (T3 Nm (Tu Nm) ((Tu Nm) × (Tu Nm))), (atI s5 (0 : Int) = some v36) ∧ (∃ j38 : Nat, ixN s5.length (0 : Int) = some j38 ∧ (∃ U41 : Bool → Prop, (m_law_told (setF' s6 v31 (onceT (Sq.mk false ([v_strange])), onceT (Sq.mk true (Tu.mk [v_strange, v_strange]).l))) v_single (fun r42 => ((!(decide (r42 = (T4.mk v_due.a v_due.b (List.set s5 j38 (T3.mk v34 v36.b ((Tu.mk [v_strange]), (Tu.mk [v_strange])))) v_due.d)))) = false → m_law_told v_other v_single (fun r46 => U41 (!(decide (r46 = v_due)))) (fun y47 c fs => kx ((setF' s6 v31 (onceT (Sq.mk false ([v_strange])), onceT (Sq.mk true (Tu.mk [v_strange, v_strange]).l))), v_other) c fs)) ∧ ((!(decide (r42 = (T4.mk v_due.a v_due.b (List.set s5 j38 (T3.mk v34 v36.b ((Tu.mk [v_strange]), (Tu.mk [v_strange])))) v_due.d)))) = true → U41 true)) (fun y43 c fs => kx ((setF' s6 v31 (onceT (Sq.mk false ([v_strange])), onceT (Sq.mk true (Tu.mk [v_strange, v_strange]).l))), v_other) c fs)) ∧ ∀ b, U41 b → ((b = true → k (false, (setF' s6 v31 (onceT (Sq.mk false ([v_strange])), onceT (Sq.mk true (Tu.mk [v_strange, v_strange]).l))), v_other)) ∧ (b = false → ∃ v50 : Nm, (atI v_due.b.l (-(1 : Int)) = some v50) ∧ ((v50 ∈ v_other.order ∧ okSq (Sq.mk true (Tu.mk []).l) ∧ okSq (Sq.mk true (Tu.mk []).l)) ∧ (∃ v55 : Nm, (atI v_due.b.l (-(1 : Int)) = some v55) ∧ (∃ v57 : (T3 Nm (Tu Nm) ((Tu Nm) × (Tu Nm))), (atI v_due.c (-(1 : Int)) = some v57) ∧ (∃ j59 : Nat, ixN v_due.c.length (-(1 : Int)) = some j59 ∧ (m_law_told (setF' s6 v31 (onceT (Sq.mk false ([v_strange])), onceT (Sq.mk true (Tu.mk [v_strange, v_strange]).l))) v_single (fun r62 => (decide (r62 = (T4.mk v_due.a v_due.b (List.set s5 j38 (T3.mk v34 v36.b ((Tu.mk [v_strange]), (Tu.mk [v_strange])))) v_due.d)) = true → m_law_told (setF' v_other v50 (onceT (Sq.mk true (Tu.mk []).l), onceT (Sq.mk true (Tu.mk []).l))) v_single (fun r66 => k (decide (r66 = (T4.mk v_due.a v_due.b (List.set v_due.c j59 (T3.mk v55 v57.b ((Tu.mk []), (Tu.mk [])))) v_due.d)), (setF' s6 v31 (onceT (Sq.mk false ([v_strange])), onceT (Sq.mk true (Tu.mk [v_strange, v_strange]).l))), (setF' v_other v50 (onceT (Sq.mk true (Tu.mk []).l), onceT (Sq.mk true (Tu.mk []).l))))) (fun y67 c fs => kx ((setF' s6 v31 (onceT (Sq.mk false ([v_strange])), onceT (Sq.mk true (Tu.mk [v_strange, v_strange]).l))), (setF' v_other v50 (onceT (Sq.mk true (Tu.mk []).l), onceT (Sq.mk true (Tu.mk []).l)))) c fs)) ∧ (decide (r62 = (T4.mk v_due.a v_due.b (List.set s5 j38 (T3.mk v34 v36.b ((Tu.mk [v_strange]), (Tu.mk [v_strange])))) v_due.d)) = false → k (false, (setF' s6 v31 (onceT (Sq.mk false ([v_strange])), onceT (Sq.mk true (Tu.mk [v_strange, v_strange]).l))), (setF' v_other v50 (onceT (Sq.mk true (Tu.mk []).l), onceT (Sq.mk true (Tu.mk []).l)))))) (fun y63 c fs => kx ((setF' s6 v31 (onceT (Sq.mk false ([v_strange])), onceT (Sq.mk true (Tu.mk [v_strange, v_strange]).l))), (setF' v_other v50 (onceT (Sq.mk true (Tu.mk []).l), onceT (Sq.mk true (Tu.mk []).l)))) c fs)))))))))))))
abbrev sg_law_apart (a : Ad) : SpG := sgU (A := KindV × KindV × Bool × (T4 Nm (Tu Nm) (List (T3 Nm (Tu Nm) ((Tu Nm) × (Tu Nm)))) Nm) × Nm) (Z := KaZ × KaZ) (ρ := Bool × KindV × KindV) (Y := KindV × KindV) (fun x z => [.ref z.1.x, .ref z.2.x, rp x.2.2.1, rp x.2.2.2.1, rp x.2.2.2.2]) (fun x z μ => KaOk a z.1 x.1 ∧ KaOk a z.2 x.2.1 ∧ μ = (kaM a z.1 x.1 ++ kaM a z.2 x.2.1)) (fun x z r d μ => d = rp r.1 ∧ KaOk a z.1 r.2.1 ∧ KaOk a z.2 r.2.2 ∧ μ = (kaM a z.1 r.2.1 ++ kaM a z.2 r.2.2)) (fun x z y μ => KaOk a z.1 y.1 ∧ KaOk a z.2 y.2 ∧ μ = (kaM a z.1 y.1 ++ kaM a z.2 y.2)) (fun x k kx => m_law_apart x.1 x.2.1 x.2.2.1 x.2.2.2.1 x.2.2.2.2 k kx)
theorem ok_law_apart (T : Tx P K mg a) : FnOk P w K mg base (L2.CX P w) 6 a.f_law_apart a.fd_law_apart ["_law_changed", "_law_other", "_law_single", "_law_due", "_law_strange"] (spG (sgK K a) (sg_law_apart a)) := by
  refine fundU T.F_law_apart sc_law_apart (fun _ _ => rfl) (fun cdv A outer s H E x z μ k kx hr tk hm h => ?_)
  obtain ⟨v_changed, v_other, v_single, v_due, v_strange⟩ := x
  obtain ⟨z1, z2⟩ := z
  obtain ⟨kz1, kz2, rfl⟩ := hm
  replace kz1 : KaOk a z1 v_changed := kz1
  replace kz2 : KaOk a z2 v_other := kz2
  have hu := hu_room hr
  have nd := sc_law_apart.nd
  replace h : m_law_apart v_changed v_other v_single v_due v_strange k kx := h
  unfold m_law_apart at h
  refine bl_norm [some (.ref z1.x), some (.ref z2.x), some (rp v_single), some (rp v_due), some (rp v_strange), none, none, none, none, none, none] ((kaM a z1 v_changed) ++ (kaM a z2 v_other)) ?_
  refine asgF 5 ?nd1 ?_
  case nd1 => exact nd
  refine ixF ?_
  refine nm 3 ?_
  refine ev_int ?_
  refine ix_t (l := [rp v_due.a, rp v_due.b, rp v_due.c, rp v_due.d]) (rp v_due.b) ?_
  refine bl_norm [some (.ref z1.x), some (.ref z2.x), some (rp v_single), some (rp v_due), some (rp v_strange), some (rp v_due.b), none, none, none, none, none] ((kaM a z1 v_changed) ++ (kaM a z2 v_other)) ?_
  refine asgF 6 ?nd3 ?_
  case nd3 => exact nd
  refine cT T.z_list b_list ?_
  refine ea_c ?_
  refine ixF ?_
  refine nm 3 ?_
  refine ev_int ?_
  refine ix_t (l := [rp v_due.a, rp v_due.b, rp v_due.c, rp v_due.d]) (rp v_due.c) ?_
  refine ea_nil ?_
  refine c_listE v_due.c (.l (.val _)) (fun y2 hy2 => ?_)
  rw [List.append_assoc]
  refine bl_permR (Split.perm ((Split.skip ((Split.right (kaM a z2 v_other) [(y2, .lst (List.map rp v_due.c))])) (kaM a z1 v_changed)))) ?_
  refine bl_norm _ ((y2, .lst (List.map rp v_due.c)) :: ((kaM a z1 v_changed) ++ (kaM a z2 v_other))) ?_
  refine bl_norm [some (.ref z1.x), some (.ref z2.x), some (rp v_single), some (rp v_due), some (rp v_strange), some (rp v_due.b), some (.ref y2), none, none, none, none] ((y2, .lst (List.map rp v_due.c)) :: ((kaM a z1 v_changed) ++ (kaM a z2 v_other))) ?_
  obtain ⟨J4, h, hJ⟩ := h
  refine seqP (fun Γ' μ' => ∃ (s5 : (List (T3 Nm (Tu Nm) ((Tu Nm) × (Tu Nm))))) (s6 : KindV) (o7 o8 : Option D) , J4 s5 s6 ∧ KaOk a z1 s6 ∧ Γ' = [some (.ref z1.x), some (.ref z2.x), some (rp v_single), some (rp v_due), some (rp v_strange), some (rp v_due.b), some (.ref y2), o7, o8, none, none] ∧ μ' = ((y2, .lst (List.map rp s5)) :: ((kaM a z1 s6) ++ (kaM a z2 v_other)))) ?_ ?_
  · refine st_if ?_
    refine et_cmp ?_
    refine cB T.z_len b_len ?_
    refine ea_c ?_
    refine nm 6 ?_
    refine ea_nil ?_
    refine c_len v_due.c (IsL.mem (.head _)) ?_
    refine ev_int ?_
    refine og_gtI ?_
    refine xb ?_
    refine ⟨fun ht => ?_, fun ht => ?_⟩
    · replace h := h.1 ht
      refine bl_norm [some (.ref z1.x), some (.ref z2.x), some (rp v_single), some (rp v_due), some (rp v_strange), some (rp v_due.b), some (.ref y2), none, none, none, none] ((y2, .lst (List.map rp v_due.c)) :: ((kaM a z1 v_changed) ++ (kaM a z2 v_other))) ?_
      refine exF ?_
      refine ev_meth (ns := ["order", "leads", "rows", "doors", "name"]) (CX := CX0) allow_mono (clK T z1.m) (mK_allow T z1.m) (ok_Steps_allow T) (hr.mono (by decide)) T.b_Steps_allow .nil (fun _ => .nil) pass0 ?_
      refine nm 0 ?_
      refine And.intro (kaRcv (.r ((Split.left (kaM a z1 v_changed) (kaM a z2 v_other))))) ?_
      refine And.intro (by decide +kernel) ?_
      refine ea_c ?_
      refine ixF ?_
      refine nm 5 ?_
      refine ev_un ?_
      refine ev_int ?_
      refine ug_neg ?_
      obtain ⟨v10, g11, h⟩ := h
      refine ix_T v_due.b g11 ?_
      refine ea_c ?_
      refine ixF ?_
      refine nm 5 ?_
      refine ev_int ?_
      obtain ⟨v12, g13, h⟩ := h
      refine ix_T v_due.b g13 ?_
      obtain ⟨g14, h⟩ := h
      refine ea_nil (ask_allowK (.r ((Split.left (kaM a z1 v_changed) (kaM a z2 v_other)))) kz1 g14.1 g14.2.1 g14.2.2 ?_)
      refine bl_permR (Split.perm ((Split.skip (.l ((Split.none (kaM a z2 v_other)))) (kaM a z1 (allowF v_changed v10 v12))))) ?_
      refine bl_norm _ ((y2, .lst (List.map rp v_due.c)) :: ((kaM a z1 (allowF v_changed v10 v12)) ++ (kaM a z2 v_other))) ?_
      refine bl_norm [some (.ref z1.x), some (.ref z2.x), some (rp v_single), some (rp v_due), some (rp v_strange), some (rp v_due.b), some (.ref y2), none, none, none, none] ((y2, .lst (List.map rp v_due.c)) :: ((kaM a z1 (allowF v_changed v10 v12)) ++ (kaM a z2 v_other))) ?_
      refine bl_cons ?_
      refine st_setLc (i := 7) (own := [("_law_after", 8)]) (by rfl) ?nd15 (by rfl) (by rfl) (swaps_yes (by rfl) (by rfl) (by rfl) (by decide +kernel)) (blkOk_by (N := N_law_apart) (sc := defScope s_law_apart) (by decide +kernel)) (by rfl) ?_
      case nd15 => exact nd
      refine ig_val ?_
      refine nm 5 ?_
      refine it_T v_due.b ?_
      refine lcQ (xs := v_due.b.l) (f := fun x17 : Nm => rp x17) h (fun μ' => μ' = ((y2, .lst (List.map rp v_due.c)) :: ((kaM a z1 (allowF v_changed v10 v12)) ++ (kaM a z2 v_other)))) rfl (fun _ _ => trivial) (fun x17 J18 μ' hx r h k => ?_) (fun acc19 μ' r h => ?_)
      · subst r
        refine tn 8 ?nd20 ?_
        case nd20 => exact nd
        refine fun k => ts_one ?_
        refine et_w ?_
        refine ew_or ?_
        refine et_cmp ?_
        refine nm 8 ?_
        refine ixF ?_
        refine nm 5 ?_
        refine ev_int ?_
        obtain ⟨v21, g22, h⟩ := h
        refine ix_T v_due.b g22 ?_
        refine op_eq x17 v21 hu .val .val ?_
        refine xb ?_
        refine ⟨fun ht => ?_, fun ht => ?_⟩
        rotate_left
        · replace h := h.1 ht
          refine ⟨fun _ k => ?_, fun h => nomatch h⟩
          refine nm 8 ?_
          refine ⟨x17, rfl, h, rfl⟩
        replace h := h.2 ht
        refine ew_or1 ?_
        refine et_cmp ?_
        refine nm 8 ?_
        refine ixF ?_
        refine ixF ?_
        refine nm 6 ?_
        refine ev_un ?_
        refine ev_int ?_
        refine ug_neg ?_
        obtain ⟨v23, g24, h⟩ := h
        refine ix_l v_due.c (IsL.mem (.head _)) g24 ?_
        refine ev_int ?_
        refine ix_t (l := [rp v23.a, rp v23.b, rp v23.c]) (rp v23.b) ?_
        refine op_inT x17 v23.b ?_
        refine xb ?_
        refine tb (fun ht k => ?_) (fun hf => ?_)
        rotate_left
        · replace h := h.2 hf
          exact ⟨h, rfl⟩
        replace h := h.1 ht
        refine nm 8 ?_
        refine ⟨x17, rfl, h, rfl⟩
      subst r
      refine bl_norm [some (.ref z1.x), some (.ref z2.x), some (rp v_single), some (rp v_due), some (rp v_strange), some (rp v_due.b), some (.ref y2), some (rp acc19), none, none, none] ((y2, .lst (List.map rp v_due.c)) :: ((kaM a z1 (allowF v_changed v10 v12)) ++ (kaM a z2 v_other))) ?_
      refine setF (α := (T3 Nm (Tu Nm) ((Tu Nm) × (Tu Nm)))) (a := y2) ?_
      refine ev_tup ?_
      refine ea_c ?_
      refine ixF ?_
      refine nm 5 ?_
      refine ev_un ?_
      refine ev_int ?_
      refine ug_neg ?_
      obtain ⟨v25, g26, h⟩ := h
      refine ix_T v_due.b g26 ?_
      refine ea_c ?_
      refine cT T.z_tuple b_tuple ?_
      refine ea_c ?_
      refine nm 7 ?_
      refine ea_nil ?_
      refine c_tuple acc19 (.l (.val _)) ?_
      refine ea_c ?_
      refine ixF ?_
      refine ixF ?_
      refine nm 6 ?_
      refine ev_un ?_
      refine ev_int ?_
      refine ug_neg ?_
      obtain ⟨v27, g28, h⟩ := h
      refine ix_l v_due.c (IsL.mem (.head _)) g28 ?_
      refine ev_int ?_
      refine ix_t (l := [rp v27.a, rp v27.b, rp v27.c]) (rp v27.c) ?_
      refine ea_few ?_
      refine nm 6 ?_
      refine ev_un ?_
      refine ev_int ?_
      refine ug_neg ?_
      obtain ⟨j29, g30, h⟩ := h
      refine ⟨v_due.c, (-(1 : Int)), j29, (T3.mk v25 (Tu.mk acc19) v27.c), _, rfl, rfl, rfl, g30, (.here), ?_⟩
      exact nil ⟨(List.set v_due.c j29 (T3.mk v25 (Tu.mk acc19) v27.c)), (allowF v_changed v10 v12), _, _, h, (kz1.allow g14.2.1 g14.2.2), rfl, rfl⟩
    · replace h := h.2 ht
      exact nil ⟨v_due.c, v_changed, _, _, h, kz1, rfl, rfl⟩
  rintro _ _ ⟨s5, s6, o7, o8, hs, k9, rfl, rfl⟩
  replace h := hJ s5 s6 hs
  refine bl_cons ?_
  refine st_setOwn (ns := ["order", "leads", "rows", "doors", "name"]) (CX := CX0) ⟨set_mono, atK_set T z1.m, T.fn_Doors_setitem, ok_Doors_setitem T, T.b_Doors_setitem, pass0⟩ (nqK T z1.m) (hr.mono (by decide)) (hs := swaps_su) ?_
  refine ev_tup ?_
  refine ea_c ?_
  refine ev_lst ?_
  refine ea_c ?_
  refine nm 4 ?_
  refine ea_few ?_
  refine ea_c ?_
  refine ev_tup ?_
  refine ea_c ?_
  refine nm 4 ?_
  refine ea_c ?_
  refine nm 4 ?_
  refine ea_few ?_
  refine ea_few ?_
  refine nm 0 ?_
  refine ixF ?_
  refine nm 5 ?_
  refine ev_int ?_
  obtain ⟨v31, g32, h⟩ := h
  refine ix_T v_due.b g32 ?_
  obtain ⟨g33, h⟩ := h
  refine ⟨kaRcv (.r ((Split.left (kaM a z1 s6) (kaM a z2 v_other)))), ask_setK (n := (Sq.mk false ([v_strange]))) (g := (Sq.mk true (Tu.mk [v_strange, v_strange]).l)) (.r ((Split.left (kaM a z1 s6) (kaM a z2 v_other)))) k9 g33.1 g33.2.1 g33.2.2 ?_⟩
  refine bl_permR (Split.perm ((Split.skip (.l ((Split.none (kaM a z2 v_other)))) (kaM a z1 (setF' s6 v31 (onceT (Sq.mk false ([v_strange])), onceT (Sq.mk true (Tu.mk [v_strange, v_strange]).l))))))) ?_
  refine bl_norm _ ((y2, .lst (List.map rp s5)) :: ((kaM a z1 (setF' s6 v31 (onceT (Sq.mk false ([v_strange])), onceT (Sq.mk true (Tu.mk [v_strange, v_strange]).l)))) ++ (kaM a z2 v_other))) ?_
  refine bl_norm [some (.ref z1.x), some (.ref z2.x), some (rp v_single), some (rp v_due), some (rp v_strange), some (rp v_due.b), some (.ref y2), o7, o8, none, none] ((y2, .lst (List.map rp s5)) :: ((kaM a z1 (setF' s6 v31 (onceT (Sq.mk false ([v_strange])), onceT (Sq.mk true (Tu.mk [v_strange, v_strange]).l)))) ++ (kaM a z2 v_other))) ?_
  refine setF (α := (T3 Nm (Tu Nm) ((Tu Nm) × (Tu Nm)))) (a := y2) ?_
  refine ev_tup ?_
  refine ea_c ?_
  refine ixF ?_
  refine nm 5 ?_
  refine ev_int ?_
  obtain ⟨v34, g35, h⟩ := h
  refine ix_T v_due.b g35 ?_
  refine ea_c ?_
  refine ixF ?_
  refine ixF ?_
  refine nm 6 ?_
  refine ev_int ?_
  obtain ⟨v36, g37, h⟩ := h
  refine ix_l s5 (IsL.mem (.head _)) g37 ?_
  refine ev_int ?_
  refine ix_t (l := [rp v36.a, rp v36.b, rp v36.c]) (rp v36.b) ?_
  refine ea_c ?_
  refine ev_tup ?_
  refine ea_c ?_
  refine ev_tup ?_
  refine ea_c ?_
  refine nm 4 ?_
  refine ea_few ?_
  refine ea_c ?_
  refine ev_tup ?_
  refine ea_c ?_
  refine nm 4 ?_
  refine ea_few ?_
  refine ea_few ?_
  refine ea_few ?_
  refine nm 6 ?_
  refine ev_int ?_
  obtain ⟨j38, g39, h⟩ := h
  refine ⟨s5, (0 : Int), j38, (T3.mk v34 v36.b ((Tu.mk [v_strange]), (Tu.mk [v_strange]))), _, rfl, rfl, rfl, g39, (.here), ?_⟩
  refine bl_frz (i := 6) rfl ((.here)) ?_
  refine bl_norm [some (.ref z1.x), some (.ref z2.x), some (rp v_single), some (rp v_due), some (rp v_strange), some (rp v_due.b), some (rp (List.set s5 j38 (T3.mk v34 v36.b ((Tu.mk [v_strange]), (Tu.mk [v_strange]))))), o7, o8, none, none] ((kaM a z1 (setF' s6 v31 (onceT (Sq.mk false ([v_strange])), onceT (Sq.mk true (Tu.mk [v_strange, v_strange]).l)))) ++ (kaM a z2 v_other)) ?_
  refine asgF 9 ?nd40 ?_
  case nd40 => exact nd
  refine ev_tup ?_
  refine ea_c ?_
  refine ixF ?_
  refine nm 3 ?_
  refine ev_int ?_
  refine ix_t (l := [rp v_due.a, rp v_due.b, rp v_due.c, rp v_due.d]) (rp v_due.a) ?_
  refine ea_c ?_
  refine nm 5 ?_
  refine ea_c ?_
  refine nm 6 ?_
  refine ea_c ?_
  refine ixF ?_
  refine nm 3 ?_
  refine ev_int ?_
  refine ix_t (l := [rp v_due.a, rp v_due.b, rp v_due.c, rp v_due.d]) (rp v_due.d) ?_
  refine ea_few ?_
  refine bl_norm [some (.ref z1.x), some (.ref z2.x), some (rp v_single), some (rp v_due), some (rp v_strange), some (rp v_due.b), some (rp (List.set s5 j38 (T3.mk v34 v36.b ((Tu.mk [v_strange]), (Tu.mk [v_strange]))))), o7, o8, some (rp (T4.mk v_due.a v_due.b (List.set s5 j38 (T3.mk v34 v36.b ((Tu.mk [v_strange]), (Tu.mk [v_strange])))) v_due.d)), none] ((kaM a z1 (setF' s6 v31 (onceT (Sq.mk false ([v_strange])), onceT (Sq.mk true (Tu.mk [v_strange, v_strange]).l)))) ++ (kaM a z2 v_other)) ?_
  obtain ⟨U41, h, hU⟩ := h
  refine ifb ?_
  refine et_cut U41 (fun μ' => μ' = ((kaM a z1 (setF' s6 v31 (onceT (Sq.mk false ([v_strange])), onceT (Sq.mk true (Tu.mk [v_strange, v_strange]).l)))) ++ (kaM a z2 v_other))) ?_ (fun b μ' hb r => ?_)
  · refine et_w ?_
    refine ew_or ?_
    refine et_cmp ?_
    refine cF sgU_mono (ok_law_told T) (hr.mono (by decide)) T.mg_law_told T.F_law_told.kp T.b_law_told (passes_call tk fun _ _ _ _ h => h) ?_
    refine ea_c ?_
    refine nm 0 ?_
    refine ea_c ?_
    refine nm 2 ?_
    refine ea_nil ?_
    refine ask_u ((setF' s6 v31 (onceT (Sq.mk false ([v_strange])), onceT (Sq.mk true (Tu.mk [v_strange, v_strange]).l))), v_single) z1 ((Split.left (kaM a z1 (setF' s6 v31 (onceT (Sq.mk false ([v_strange])), onceT (Sq.mk true (Tu.mk [v_strange, v_strange]).l)))) (kaM a z2 v_other))) rfl ⟨(k9.set (k := v31) g33.2.1 g33.2.2), rfl⟩ h (fun r42 d μ1 h hz => ?_) (fun c fs y43 μ1 h hp hz => by obtain ⟨k44, rfl⟩ := hz; exact ⟨((setF' s6 v31 (onceT (Sq.mk false ([v_strange])), onceT (Sq.mk true (Tu.mk [v_strange, v_strange]).l))), v_other), _, (SubP.of (List.Sublist.append (List.Sublist.refl _) (List.Sublist.refl _))), h, hp, k44, kz2, rfl⟩)
    obtain ⟨rfl, k45, rfl⟩ := hz
    refine nm 9 ?_
    refine op_ne r42 (T4.mk v_due.a v_due.b (List.set s5 j38 (T3.mk v34 v36.b ((Tu.mk [v_strange]), (Tu.mk [v_strange])))) v_due.d) hu .val .val ?_
    refine xb ?_
    refine ⟨fun ht => ?_, fun ht => ?_⟩
    · replace h := h.1 ht
      refine ew_or1 ?_
      refine et_cmp ?_
      refine ev_permQ ?_
      refine cF sgU_mono (ok_law_told T) (hr.mono (by decide)) T.mg_law_told T.F_law_told.kp T.b_law_told (passes_call tk fun _ _ _ _ h => h) ?_
      refine ea_c ?_
      refine nm 1 ?_
      refine ea_c ?_
      refine nm 2 ?_
      refine ea_nil ?_
      refine ask_u (v_other, v_single) z2 ((Split.right (kaM a z1 (setF' s6 v31 (onceT (Sq.mk false ([v_strange])), onceT (Sq.mk true (Tu.mk [v_strange, v_strange]).l)))) (kaM a z2 v_other))) rfl ⟨kz2, rfl⟩ h (fun r46 d μ1 h hz => ?_) (fun c fs y47 μ1 h hp hz => by obtain ⟨k48, rfl⟩ := hz; exact ⟨((setF' s6 v31 (onceT (Sq.mk false ([v_strange])), onceT (Sq.mk true (Tu.mk [v_strange, v_strange]).l))), v_other), _, (SubP.pm (Split.perm ((Split.right (kaM a z1 (setF' s6 v31 (onceT (Sq.mk false ([v_strange])), onceT (Sq.mk true (Tu.mk [v_strange, v_strange]).l)))) (kaM a z2 v_other)))) (List.Sublist.append (List.Sublist.refl _) (List.Sublist.refl _))), h, hp, k45, k48, rfl⟩)
      obtain ⟨rfl, k49, rfl⟩ := hz
      refine ⟨((kaM a z1 (setF' s6 v31 (onceT (Sq.mk false ([v_strange])), onceT (Sq.mk true (Tu.mk [v_strange, v_strange]).l)))) ++ (kaM a z2 v_other)), (Split.perm ((Split.right (kaM a z1 (setF' s6 v31 (onceT (Sq.mk false ([v_strange])), onceT (Sq.mk true (Tu.mk [v_strange, v_strange]).l)))) (kaM a z2 v_other)))).symm, ?_⟩
      refine nm 3 ?_
      refine op_ne r46 v_due hu .val .val ?_
      refine xb ?_
      refine ⟨h, rfl⟩
    · replace h := h.2 ht
      refine ⟨h, rfl⟩
  subst r
  replace h := hU b hb
  refine ⟨fun ht => ?_, fun ht => ?_⟩
  · replace h := h.1 ht
    refine ret ?_
    refine ev_bl ?_
    refine ⟨(false, (setF' s6 v31 (onceT (Sq.mk false ([v_strange])), onceT (Sq.mk true (Tu.mk [v_strange, v_strange]).l))), v_other), _, (List.Sublist.append (List.Sublist.refl _) (List.Sublist.refl _)), h, rfl, (k9.set (k := v31) g33.2.1 g33.2.2), kz2, rfl⟩
  replace h := h.2 ht
  refine nil ?_
  refine bl_cons ?_
  refine st_setOwn (ns := ["order", "leads", "rows", "doors", "name"]) (CX := CX0) ⟨set_mono, atK_set T z2.m, T.fn_Doors_setitem, ok_Doors_setitem T, T.b_Doors_setitem, pass0⟩ (nqK T z2.m) (hr.mono (by decide)) (hs := swaps_su) ?_
  refine ev_tup ?_
  refine ea_c ?_
  refine ev_tup ?_
  refine ea_few ?_
  refine ea_c ?_
  refine ev_tup ?_
  refine ea_few ?_
  refine ea_few ?_
  refine nm 1 ?_
  refine ixF ?_
  refine nm 5 ?_
  refine ev_un ?_
  refine ev_int ?_
  refine ug_neg ?_
  obtain ⟨v50, g51, h⟩ := h
  refine ix_T v_due.b g51 ?_
  obtain ⟨g52, h⟩ := h
  refine ⟨kaRcv ((Split.right (kaM a z1 (setF' s6 v31 (onceT (Sq.mk false ([v_strange])), onceT (Sq.mk true (Tu.mk [v_strange, v_strange]).l)))) (kaM a z2 v_other))), ask_setK (n := (Sq.mk true (Tu.mk []).l)) (g := (Sq.mk true (Tu.mk []).l)) ((Split.right (kaM a z1 (setF' s6 v31 (onceT (Sq.mk false ([v_strange])), onceT (Sq.mk true (Tu.mk [v_strange, v_strange]).l)))) (kaM a z2 v_other))) kz2 g52.1 g52.2.1 g52.2.2 ?_⟩
  refine bl_permR (Split.perm ((Split.right (kaM a z2 (setF' v_other v50 (onceT (Sq.mk true (Tu.mk []).l), onceT (Sq.mk true (Tu.mk []).l)))) (kaM a z1 (setF' s6 v31 (onceT (Sq.mk false ([v_strange])), onceT (Sq.mk true (Tu.mk [v_strange, v_strange]).l))))))) ?_
  refine bl_norm _ ((kaM a z1 (setF' s6 v31 (onceT (Sq.mk false ([v_strange])), onceT (Sq.mk true (Tu.mk [v_strange, v_strange]).l)))) ++ (kaM a z2 (setF' v_other v50 (onceT (Sq.mk true (Tu.mk []).l), onceT (Sq.mk true (Tu.mk []).l))))) ?_
  refine bl_norm [some (.ref z1.x), some (.ref z2.x), some (rp v_single), some (rp v_due), some (rp v_strange), some (rp v_due.b), some (rp (List.set s5 j38 (T3.mk v34 v36.b ((Tu.mk [v_strange]), (Tu.mk [v_strange]))))), o7, o8, some (rp (T4.mk v_due.a v_due.b (List.set s5 j38 (T3.mk v34 v36.b ((Tu.mk [v_strange]), (Tu.mk [v_strange])))) v_due.d)), none] ((kaM a z1 (setF' s6 v31 (onceT (Sq.mk false ([v_strange])), onceT (Sq.mk true (Tu.mk [v_strange, v_strange]).l)))) ++ (kaM a z2 (setF' v_other v50 (onceT (Sq.mk true (Tu.mk []).l), onceT (Sq.mk true (Tu.mk []).l))))) ?_
  refine asgF 6 ?nd54 ?_
  case nd54 => exact nd
  refine cT T.z_list b_list ?_
  refine ea_c ?_
  refine ixF ?_
  refine nm 3 ?_
  refine ev_int ?_
  refine ix_t (l := [rp v_due.a, rp v_due.b, rp v_due.c, rp v_due.d]) (rp v_due.c) ?_
  refine ea_nil ?_
  refine c_listE v_due.c (.l (.val _)) (fun y53 hy53 => ?_)
  rw [List.append_assoc]
  refine bl_permR (Split.perm ((Split.skip ((Split.right (kaM a z2 (setF' v_other v50 (onceT (Sq.mk true (Tu.mk []).l), onceT (Sq.mk true (Tu.mk []).l)))) [(y53, .lst (List.map rp v_due.c))])) (kaM a z1 (setF' s6 v31 (onceT (Sq.mk false ([v_strange])), onceT (Sq.mk true (Tu.mk [v_strange, v_strange]).l))))))) ?_
  refine bl_norm _ ((y53, .lst (List.map rp v_due.c)) :: ((kaM a z1 (setF' s6 v31 (onceT (Sq.mk false ([v_strange])), onceT (Sq.mk true (Tu.mk [v_strange, v_strange]).l)))) ++ (kaM a z2 (setF' v_other v50 (onceT (Sq.mk true (Tu.mk []).l), onceT (Sq.mk true (Tu.mk []).l)))))) ?_
  refine bl_norm [some (.ref z1.x), some (.ref z2.x), some (rp v_single), some (rp v_due), some (rp v_strange), some (rp v_due.b), some (.ref y53), o7, o8, some (rp (T4.mk v_due.a v_due.b (List.set s5 j38 (T3.mk v34 v36.b ((Tu.mk [v_strange]), (Tu.mk [v_strange])))) v_due.d)), none] ((y53, .lst (List.map rp v_due.c)) :: ((kaM a z1 (setF' s6 v31 (onceT (Sq.mk false ([v_strange])), onceT (Sq.mk true (Tu.mk [v_strange, v_strange]).l)))) ++ (kaM a z2 (setF' v_other v50 (onceT (Sq.mk true (Tu.mk []).l), onceT (Sq.mk true (Tu.mk []).l)))))) ?_
  refine setF (α := (T3 Nm (Tu Nm) ((Tu Nm) × (Tu Nm)))) (a := y53) ?_
  refine ev_tup ?_
  refine ea_c ?_
  refine ixF ?_
  refine nm 5 ?_
  refine ev_un ?_
  refine ev_int ?_
  refine ug_neg ?_
  obtain ⟨v55, g56, h⟩ := h
  refine ix_T v_due.b g56 ?_
  refine ea_c ?_
  refine ixF ?_
  refine ixF ?_
  refine nm 6 ?_
  refine ev_un ?_
  refine ev_int ?_
  refine ug_neg ?_
  obtain ⟨v57, g58, h⟩ := h
  refine ix_l v_due.c (IsL.mem (.head _)) g58 ?_
  refine ev_int ?_
  refine ix_t (l := [rp v57.a, rp v57.b, rp v57.c]) (rp v57.b) ?_
  refine ea_c ?_
  refine ev_tup ?_
  refine ea_c ?_
  refine ev_tup ?_
  refine ea_few ?_
  refine ea_c ?_
  refine ev_tup ?_
  refine ea_few ?_
  refine ea_few ?_
  refine ea_few ?_
  refine nm 6 ?_
  refine ev_un ?_
  refine ev_int ?_
  refine ug_neg ?_
  obtain ⟨j59, g60, h⟩ := h
  refine ⟨v_due.c, (-(1 : Int)), j59, (T3.mk v55 v57.b ((Tu.mk []), (Tu.mk []))), _, rfl, rfl, rfl, g60, (.here), ?_⟩
  refine bl_frz (i := 6) rfl ((.here)) ?_
  refine bl_norm [some (.ref z1.x), some (.ref z2.x), some (rp v_single), some (rp v_due), some (rp v_strange), some (rp v_due.b), some (rp (List.set v_due.c j59 (T3.mk v55 v57.b ((Tu.mk []), (Tu.mk []))))), o7, o8, some (rp (T4.mk v_due.a v_due.b (List.set s5 j38 (T3.mk v34 v36.b ((Tu.mk [v_strange]), (Tu.mk [v_strange])))) v_due.d)), none] ((kaM a z1 (setF' s6 v31 (onceT (Sq.mk false ([v_strange])), onceT (Sq.mk true (Tu.mk [v_strange, v_strange]).l)))) ++ (kaM a z2 (setF' v_other v50 (onceT (Sq.mk true (Tu.mk []).l), onceT (Sq.mk true (Tu.mk []).l))))) ?_
  refine asgF 10 ?nd61 ?_
  case nd61 => exact nd
  refine ev_tup ?_
  refine ea_c ?_
  refine ixF ?_
  refine nm 3 ?_
  refine ev_int ?_
  refine ix_t (l := [rp v_due.a, rp v_due.b, rp v_due.c, rp v_due.d]) (rp v_due.a) ?_
  refine ea_c ?_
  refine nm 5 ?_
  refine ea_c ?_
  refine nm 6 ?_
  refine ea_c ?_
  refine ixF ?_
  refine nm 3 ?_
  refine ev_int ?_
  refine ix_t (l := [rp v_due.a, rp v_due.b, rp v_due.c, rp v_due.d]) (rp v_due.d) ?_
  refine ea_few ?_
  refine bl_norm [some (.ref z1.x), some (.ref z2.x), some (rp v_single), some (rp v_due), some (rp v_strange), some (rp v_due.b), some (rp (List.set v_due.c j59 (T3.mk v55 v57.b ((Tu.mk []), (Tu.mk []))))), o7, o8, some (rp (T4.mk v_due.a v_due.b (List.set s5 j38 (T3.mk v34 v36.b ((Tu.mk [v_strange]), (Tu.mk [v_strange])))) v_due.d)), some (rp (T4.mk v_due.a v_due.b (List.set v_due.c j59 (T3.mk v55 v57.b ((Tu.mk []), (Tu.mk [])))) v_due.d))] ((kaM a z1 (setF' s6 v31 (onceT (Sq.mk false ([v_strange])), onceT (Sq.mk true (Tu.mk [v_strange, v_strange]).l)))) ++ (kaM a z2 (setF' v_other v50 (onceT (Sq.mk true (Tu.mk []).l), onceT (Sq.mk true (Tu.mk []).l))))) ?_
  refine ret ?_
  refine ev_and ?_
  refine ev_cmp ?_
  refine cF sgU_mono (ok_law_told T) (hr.mono (by decide)) T.mg_law_told T.F_law_told.kp T.b_law_told (passes_call tk fun _ _ _ _ h => h) ?_
  refine ea_c ?_
  refine nm 0 ?_
  refine ea_c ?_
  refine nm 2 ?_
  refine ea_nil ?_
  refine ask_u ((setF' s6 v31 (onceT (Sq.mk false ([v_strange])), onceT (Sq.mk true (Tu.mk [v_strange, v_strange]).l))), v_single) z1 ((Split.left (kaM a z1 (setF' s6 v31 (onceT (Sq.mk false ([v_strange])), onceT (Sq.mk true (Tu.mk [v_strange, v_strange]).l)))) (kaM a z2 (setF' v_other v50 (onceT (Sq.mk true (Tu.mk []).l), onceT (Sq.mk true (Tu.mk []).l)))))) rfl ⟨(k9.set (k := v31) g33.2.1 g33.2.2), rfl⟩ h (fun r62 d μ1 h hz => ?_) (fun c fs y63 μ1 h hp hz => by obtain ⟨k64, rfl⟩ := hz; exact ⟨((setF' s6 v31 (onceT (Sq.mk false ([v_strange])), onceT (Sq.mk true (Tu.mk [v_strange, v_strange]).l))), (setF' v_other v50 (onceT (Sq.mk true (Tu.mk []).l), onceT (Sq.mk true (Tu.mk []).l)))), _, (SubP.of (List.Sublist.append (List.Sublist.refl _) (List.Sublist.refl _))), h, hp, k64, (kz2.set (k := v50) g52.2.1 g52.2.2), rfl⟩)
  obtain ⟨rfl, k65, rfl⟩ := hz
  refine nm 9 ?_
  refine op_eq r62 (T4.mk v_due.a v_due.b (List.set s5 j38 (T3.mk v34 v36.b ((Tu.mk [v_strange]), (Tu.mk [v_strange])))) v_due.d) hu .val .val ?_
  refine ⟨_, rfl, fun ht => ?_, fun ht => ?_⟩
  · replace h := h.1 ht
    refine ev_and1 ?_
    refine ev_cmp ?_
    refine ev_permQ ?_
    refine cF sgU_mono (ok_law_told T) (hr.mono (by decide)) T.mg_law_told T.F_law_told.kp T.b_law_told (passes_call tk fun _ _ _ _ h => h) ?_
    refine ea_c ?_
    refine nm 1 ?_
    refine ea_c ?_
    refine nm 2 ?_
    refine ea_nil ?_
    refine ask_u ((setF' v_other v50 (onceT (Sq.mk true (Tu.mk []).l), onceT (Sq.mk true (Tu.mk []).l))), v_single) z2 ((Split.right (kaM a z1 (setF' s6 v31 (onceT (Sq.mk false ([v_strange])), onceT (Sq.mk true (Tu.mk [v_strange, v_strange]).l)))) (kaM a z2 (setF' v_other v50 (onceT (Sq.mk true (Tu.mk []).l), onceT (Sq.mk true (Tu.mk []).l)))))) rfl ⟨(kz2.set (k := v50) g52.2.1 g52.2.2), rfl⟩ h (fun r66 d μ1 h hz => ?_) (fun c fs y67 μ1 h hp hz => by obtain ⟨k68, rfl⟩ := hz; exact ⟨((setF' s6 v31 (onceT (Sq.mk false ([v_strange])), onceT (Sq.mk true (Tu.mk [v_strange, v_strange]).l))), (setF' v_other v50 (onceT (Sq.mk true (Tu.mk []).l), onceT (Sq.mk true (Tu.mk []).l)))), _, (SubP.pm (Split.perm ((Split.right (kaM a z1 (setF' s6 v31 (onceT (Sq.mk false ([v_strange])), onceT (Sq.mk true (Tu.mk [v_strange, v_strange]).l)))) (kaM a z2 (setF' v_other v50 (onceT (Sq.mk true (Tu.mk []).l), onceT (Sq.mk true (Tu.mk []).l))))))) (List.Sublist.append (List.Sublist.refl _) (List.Sublist.refl _))), h, hp, k65, k68, rfl⟩)
    obtain ⟨rfl, k69, rfl⟩ := hz
    refine ⟨((kaM a z1 (setF' s6 v31 (onceT (Sq.mk false ([v_strange])), onceT (Sq.mk true (Tu.mk [v_strange, v_strange]).l)))) ++ (kaM a z2 (setF' v_other v50 (onceT (Sq.mk true (Tu.mk []).l), onceT (Sq.mk true (Tu.mk []).l))))), (Split.perm ((Split.right (kaM a z1 (setF' s6 v31 (onceT (Sq.mk false ([v_strange])), onceT (Sq.mk true (Tu.mk [v_strange, v_strange]).l)))) (kaM a z2 (setF' v_other v50 (onceT (Sq.mk true (Tu.mk []).l), onceT (Sq.mk true (Tu.mk []).l))))))).symm, ?_⟩
    refine nm 10 ?_
    refine op_eq r66 (T4.mk v_due.a v_due.b (List.set v_due.c j59 (T3.mk v55 v57.b ((Tu.mk []), (Tu.mk [])))) v_due.d) hu .val .val ?_
    refine ⟨(decide (r66 = (T4.mk v_due.a v_due.b (List.set v_due.c j59 (T3.mk v55 v57.b ((Tu.mk []), (Tu.mk [])))) v_due.d)), (setF' s6 v31 (onceT (Sq.mk false ([v_strange])), onceT (Sq.mk true (Tu.mk [v_strange, v_strange]).l))), (setF' v_other v50 (onceT (Sq.mk true (Tu.mk []).l), onceT (Sq.mk true (Tu.mk []).l)))), _, (List.Sublist.append (List.Sublist.refl _) (List.Sublist.refl _)), h, rfl, k65, k69, rfl⟩
  · replace h := h.2 ht
    refine ⟨(false, (setF' s6 v31 (onceT (Sq.mk false ([v_strange])), onceT (Sq.mk true (Tu.mk [v_strange, v_strange]).l))), (setF' v_other v50 (onceT (Sq.mk true (Tu.mk []).l), onceT (Sq.mk true (Tu.mk []).l)))), _, (List.Sublist.append (List.Sublist.refl _) (List.Sublist.refl _)), h, rfl, k65, (kz2.set (k := v50) g52.2.1 g52.2.2), rfl⟩
def m_law (k : Bool → Prop) : Prop :=
  m_law_base  (fun r2 => drw (12 : Int) (fun r4 => m_law_name r2 r4 (fun r5 => drw (6 : Int) (fun r7 => ∃ v8 : Int, (atI ([(2 : Int), (1 : Int), (3 : Int), (4 : Int), (5 : Int), (6 : Int)]) r7 = some v8) ∧ ((-(2 ^ 62) ≤ v8 ∧ v8 < 2 ^ 62) ∧ (lcI (List.range (Int.toNat v8)) (fun (x13 : Nat) J14 => m_law_name r2 (x13 : Int) (fun r17 => J14 (some r17))) (fun acc15 : List Nm => lcI (List.range (Int.toNat (3 : Int))) (fun (x20 : Nat) J21 => m_law_name r2 (x20 : Int) (fun r24 => J21 (some r24))) (fun acc22 : List Nm => m_law_name r2 (11 : Int) (fun r26 => (r5.1.length + (⟨": ", by decide +kernel⟩ : Nm).1.length ≤ 1000) ∧ (((List.map (fun v : Nm => v.1.length) acc15).sum + 2 * acc15.length ≤ 1000) ∧ (((nmApp r5 (⟨": ", by decide +kernel⟩ : Nm)).1.length + (nmJnD acc15).1.length ≤ 1000) ∧ ((acc15.length ≤ 1000000 ∧ List.Nodup (α := Nm) acc15 ∧ smallK (newK true r5 acc15)) ∧ (((!(decide ((rowP (newK true r5 acc15)) = (nmApp (nmApp r5 (⟨": ", by decide +kernel⟩ : Nm)) (nmJnD acc15))))) = true → k false) ∧ ((!(decide ((rowP (newK true r5 acc15)) = (nmApp (nmApp r5 (⟨": ", by decide +kernel⟩ : Nm)) (nmJnD acc15))))) = false → (acc15.length ≤ 1000000 ∧ List.Nodup (α := Nm) acc15) ∧ ((acc15.length ≤ 1000000 ∧ List.Nodup (α := Nm) acc15) ∧ (m_law_filled (newK false r5 acc15) acc15 acc22 (fun r46 => ((nmApp (nmApp r5 (⟨": ", by decide +kernel⟩ : Nm)) (nmJnD acc15)).1.length + (⟨" (one)", by decide +kernel⟩ : Nm).1.length ≤ 1000) ∧ (∃ U55 : Bool → Prop, (m_law_told r46.2 true (fun r56 => ((!(decide (r56 = (T4.mk r5 (Tu.mk acc15) r46.1 (nmApp (nmApp (nmApp r5 (⟨": ", by decide +kernel⟩ : Nm)) (nmJnD acc15)) (⟨" (one)", by decide +kernel⟩ : Nm)))))) = false → m_law_told r46.2 true (fun r60 => U55 (!(decide (r60 = (T4.mk r5 (Tu.mk acc15) r46.1 (nmApp (nmApp (nmApp r5 (⟨": ", by decide +kernel⟩ : Nm)) (nmJnD acc15)) (⟨" (one)", by decide +kernel⟩ : Nm))))))) (fun _ _ _ => False)) ∧ ((!(decide (r56 = (T4.mk r5 (Tu.mk acc15) r46.1 (nmApp (nmApp (nmApp r5 (⟨": ", by decide +kernel⟩ : Nm)) (nmJnD acc15)) (⟨" (one)", by decide +kernel⟩ : Nm)))))) = true → U55 true)) (fun _ _ _ => False)) ∧ ∀ b, U55 b → ((b = true → k false) ∧ (b = false → drw (2 : Int) (fun r65 => (r65 = (0 : Int) → m_law_apart r46.2 r46.2 true (T4.mk r5 (Tu.mk acc15) r46.1 (nmApp (nmApp (nmApp r5 (⟨": ", by decide +kernel⟩ : Nm)) (nmJnD acc15)) (⟨" (one)", by decide +kernel⟩ : Nm))) r26 (fun r66 => ((!r66.1) = true → k false) ∧ ((!r66.1) = false → (acc15.length ≤ 1000000 ∧ List.Nodup (α := Nm) acc15) ∧ (m_law_filled (newK true r5 acc15) acc15 acc22 (fun r80 => ((nmApp (nmApp r5 (⟨": ", by decide +kernel⟩ : Nm)) (nmJnD acc15)).1.length + (⟨" (any number)", by decide +kernel⟩ : Nm).1.length ≤ 1000) ∧ (∃ U89 : Bool → Prop, (m_law_told r80.2 false (fun r90 => ((!(decide (r90 = (T4.mk r5 (Tu.mk acc15) r80.1 (nmApp (nmApp (nmApp r5 (⟨": ", by decide +kernel⟩ : Nm)) (nmJnD acc15)) (⟨" (any number)", by decide +kernel⟩ : Nm)))))) = false → m_law_told r80.2 false (fun r94 => U89 (!(decide (r94 = (T4.mk r5 (Tu.mk acc15) r80.1 (nmApp (nmApp (nmApp r5 (⟨": ", by decide +kernel⟩ : Nm)) (nmJnD acc15)) (⟨" (any number)", by decide +kernel⟩ : Nm))))))) (fun _ _ _ => False)) ∧ ((!(decide (r90 = (T4.mk r5 (Tu.mk acc15) r80.1 (nmApp (nmApp (nmApp r5 (⟨": ", by decide +kernel⟩ : Nm)) (nmJnD acc15)) (⟨" (any number)", by decide +kernel⟩ : Nm)))))) = true → U89 true)) (fun _ _ _ => False)) ∧ ∀ b, U89 b → ((b = true → k false) ∧ (b = false → drw (2 : Int) (fun r99 => (r99 = (0 : Int) → m_law_apart r80.2 r80.2 false (T4.mk r5 (Tu.mk acc15) r80.1 (nmApp (nmApp (nmApp r5 (⟨": ", by decide +kernel⟩ : Nm)) (nmJnD acc15)) (⟨" (any number)", by decide +kernel⟩ : Nm))) r26 (fun r100 => ((!r100.1) = true → k false) ∧ ((!r100.1) = false → k true)) (fun _ _ _ => False)) ∧ (r99 = (1 : Int) → m_law_apart r80.2 r80.2 false (T4.mk r5 (Tu.mk acc15) r80.1 (nmApp (nmApp (nmApp r5 (⟨": ", by decide +kernel⟩ : Nm)) (nmJnD acc15)) (⟨" (any number)", by decide +kernel⟩ : Nm))) r26 (fun r106 => ((!r106.1) = true → k false) ∧ ((!r106.1) = false → k true)) (fun _ _ _ => False)) ∧ (r99 = 0 ∨ r99 = 1)))))) (fun _ _ _ => False)))) (fun _ _ _ => False)) ∧ (r65 = (1 : Int) → m_law_apart r46.2 r46.2 true (T4.mk r5 (Tu.mk acc15) r46.1 (nmApp (nmApp (nmApp r5 (⟨": ", by decide +kernel⟩ : Nm)) (nmJnD acc15)) (⟨" (one)", by decide +kernel⟩ : Nm))) r26 (fun r112 => ((!r112.1) = true → k false) ∧ ((!r112.1) = false → (acc15.length ≤ 1000000 ∧ List.Nodup (α := Nm) acc15) ∧ (m_law_filled (newK true r5 acc15) acc15 acc22 (fun r126 => ((nmApp (nmApp r5 (⟨": ", by decide +kernel⟩ : Nm)) (nmJnD acc15)).1.length + (⟨" (any number)", by decide +kernel⟩ : Nm).1.length ≤ 1000) ∧ (∃ U135 : Bool → Prop, (m_law_told r126.2 false (fun r136 => ((!(decide (r136 = (T4.mk r5 (Tu.mk acc15) r126.1 (nmApp (nmApp (nmApp r5 (⟨": ", by decide +kernel⟩ : Nm)) (nmJnD acc15)) (⟨" (any number)", by decide +kernel⟩ : Nm)))))) = false → m_law_told r126.2 false (fun r140 => U135 (!(decide (r140 = (T4.mk r5 (Tu.mk acc15) r126.1 (nmApp (nmApp (nmApp r5 (⟨": ", by decide +kernel⟩ : Nm)) (nmJnD acc15)) (⟨" (any number)", by decide +kernel⟩ : Nm))))))) (fun _ _ _ => False)) ∧ ((!(decide (r136 = (T4.mk r5 (Tu.mk acc15) r126.1 (nmApp (nmApp (nmApp r5 (⟨": ", by decide +kernel⟩ : Nm)) (nmJnD acc15)) (⟨" (any number)", by decide +kernel⟩ : Nm)))))) = true → U135 true)) (fun _ _ _ => False)) ∧ ∀ b, U135 b → ((b = true → k false) ∧ (b = false → drw (2 : Int) (fun r145 => (r145 = (0 : Int) → m_law_apart r126.2 r126.2 false (T4.mk r5 (Tu.mk acc15) r126.1 (nmApp (nmApp (nmApp r5 (⟨": ", by decide +kernel⟩ : Nm)) (nmJnD acc15)) (⟨" (any number)", by decide +kernel⟩ : Nm))) r26 (fun r146 => ((!r146.1) = true → k false) ∧ ((!r146.1) = false → k true)) (fun _ _ _ => False)) ∧ (r145 = (1 : Int) → m_law_apart r126.2 r126.2 false (T4.mk r5 (Tu.mk acc15) r126.1 (nmApp (nmApp (nmApp r5 (⟨": ", by decide +kernel⟩ : Nm)) (nmJnD acc15)) (⟨" (any number)", by decide +kernel⟩ : Nm))) r26 (fun r152 => ((!r152.1) = true → k false) ∧ ((!r152.1) = false → k true)) (fun _ _ _ => False)) ∧ (r145 = 0 ∨ r145 = 1)))))) (fun _ _ _ => False)))) (fun _ _ _ => False)) ∧ (r65 = 0 ∨ r65 = 1)))))) (fun _ _ _ => False)))))))))))))))))
theorem ok_lawG (T : Tx P K mg a) (h : m_law (fun b => b = true)) : FnOk P w K mg base CX0 12 a.f_law a.fd_law ["_law_script"] (spG (sgK K a) sg_law) := by
  refine fund_ok T.F_law sc_law (fun ds μ Q Ex h => ?_) (fun cdv A outer s H E ds μ Q Ex hr h0 => ?_)
  · obtain ⟨ns, rfl, _⟩ := h
    rfl
  obtain ⟨sc, rfl, hlen, rfl, q⟩ := h0
  have hu := hu_room hr
  have nd := sc_law.nd
  unfold m_law at h
  refine asg 1 nd ?_
  refine ev_call pool_mono (ok_pool T) (hr.mono (by decide)) rfl T.mg_law_pool T.F_law_pool.kp T.b_law_pool .nil (fun _ => .nil) pass0 ?_
  refine ea_cons ?_
  refine nm 0 ?_
  refine ea_nil ⟨[], [], Split.none _, sc, rfl, hlen, rfl, fun p l hl => ?_⟩
  refine bl_norm [some (.scr sc), some (.ref p), none, none, none, none, none, none, none, none, none, none, none, none, none, none, none] [(p, .lst l)] ?_
  refine asgF 2 ?nd1 ?_
  case nd1 => exact nd
  refine cF sgP_mono (ok_law_base T) (hr.mono (by decide)) T.mg_law_base T.F_law_base.kp T.b_law_base pass0 ?_
  refine ea_c ?_
  refine nm 1 ?_
  refine ea_nil ?_
  refine ask_p () rfl hl h (fun r2 l hl h => ?_)
  refine bl_norm [some (.scr sc), some (.ref p), some (rp r2), none, none, none, none, none, none, none, none, none, none, none, none, none, none] [(p, .lst l)] ?_
  refine asgF 3 ?nd3 ?_
  case nd3 => exact nd
  refine cF sgP_mono (ok_law_name T) (hr.mono (by decide)) T.mg_law_name T.F_law_name.kp T.b_law_name pass0 ?_
  refine ea_c ?_
  refine nm 1 ?_
  refine ea_c ?_
  refine nm 2 ?_
  refine ea_c ?_
  refine cF take_mono (ok_take T) (hr.mono (by decide)) T.mg_law_take T.F_law_take.kp T.b_law_take pass0 ?_
  refine ea_c ?_
  refine nm 1 ?_
  refine ea_c ?_
  refine ev_int ?_
  refine ea_nil ?_
  refine ask_t hl h fun r4 l hl h => ?_
  refine ea_nil ?_
  refine ask_p (r2, r4) rfl hl h (fun r5 l hl h => ?_)
  refine bl_norm [some (.scr sc), some (.ref p), some (rp r2), some (rp r5), none, none, none, none, none, none, none, none, none, none, none, none, none] [(p, .lst l)] ?_
  refine asgF 4 ?nd6 ?_
  case nd6 => exact nd
  refine ixF ?_
  refine ev_lstI [(2 : Int), (1 : Int), (3 : Int), (4 : Int), (5 : Int), (6 : Int)] ?_
  refine cF take_mono (ok_take T) (hr.mono (by decide)) T.mg_law_take T.F_law_take.kp T.b_law_take pass0 ?_
  refine ea_c ?_
  refine nm 1 ?_
  refine ea_c ?_
  refine ev_int ?_
  refine ea_nil ?_
  refine ask_t hl h fun r7 l hl h => ?_
  obtain ⟨v8, g9, h⟩ := h
  refine ix_l ([(2 : Int), (1 : Int), (3 : Int), (4 : Int), (5 : Int), (6 : Int)]) (isl rfl) g9 ?_
  refine bl_norm [some (.scr sc), some (.ref p), some (rp r2), some (rp r5), some (rp v8), none, none, none, none, none, none, none, none, none, none, none, none] [(p, .lst l)] ?_
  refine bl_cons ?_
  refine st_setLc (i := 5) (own := [("_law_k", 6)]) (by rfl) ?nd10 (by rfl) (by rfl) (swaps_yes (by rfl) (by rfl) (by rfl) (by decide +kernel)) (blkOk_by (N := N_law) (sc := defScope s_law) (by decide +kernel)) (by rfl) ?_
  case nd10 => exact nd
  refine ir1 T.z_range ?_
  refine ea_c ?_
  refine nm 4 ?_
  refine ea_nil ?_
  obtain ⟨g11, h⟩ := h
  refine ⟨v8, rfl, g11, lcQ (xs := (List.range (Int.toNat v8))) (f := fun x13 : Nat => rp (x13 : Int)) h (fun μ' => ∃ l, PoolOk l ∧ μ' = [(p, .lst l)]) ⟨l, hl, rfl⟩ (fun _ _ => trivial) (fun x13 J14 μ' hx r h k => ?_) (fun acc15 μ' r h => ?_)⟩
  · obtain ⟨l, hl, rfl⟩ := r
    refine tn 6 ?nd16 ?_
    case nd16 => exact nd
    refine fun k => ts_nil ⟨fun _ k => ?_, fun h => nomatch h⟩
    refine cF sgP_mono (ok_law_name T) (hr.mono (by decide)) T.mg_law_name T.F_law_name.kp T.b_law_name pass0 ?_
    refine ea_c ?_
    refine nm 1 ?_
    refine ea_c ?_
    refine nm 2 ?_
    refine ea_c ?_
    refine nm 6 ?_
    refine ea_nil ?_
    refine ask_p (r2, (x13 : Int)) rfl hl h (fun r17 l hl h => ?_)
    refine ⟨r17, rfl, h, l, hl, rfl⟩
  obtain ⟨l, hl, rfl⟩ := r
  refine bl_norm [some (.scr sc), some (.ref p), some (rp r2), some (rp r5), some (rp v8), some (rp acc15), none, none, none, none, none, none, none, none, none, none, none] [(p, .lst l)] ?_
  refine bl_cons ?_
  refine st_setLc (i := 7) (own := [("_law_k", 6)]) (by rfl) ?nd18 (by rfl) (by rfl) (swaps_yes (by rfl) (by rfl) (by rfl) (by decide +kernel)) (blkOk_by (N := N_law) (sc := defScope s_law) (by decide +kernel)) (by rfl) ?_
  case nd18 => exact nd
  refine ir1 T.z_range ?_
  refine ea_c ?_
  refine ev_int ?_
  refine ea_nil ?_
  refine ⟨(3 : Int), rfl, (by decide), lcQ (xs := (List.range (Int.toNat (3 : Int)))) (f := fun x20 : Nat => rp (x20 : Int)) h (fun μ' => ∃ l, PoolOk l ∧ μ' = [(p, .lst l)]) ⟨l, hl, rfl⟩ (fun _ _ => trivial) (fun x20 J21 μ' hx r h k => ?_) (fun acc22 μ' r h => ?_)⟩
  · obtain ⟨l, hl, rfl⟩ := r
    refine tn 6 ?nd23 ?_
    case nd23 => exact nd
    refine fun k => ts_nil ⟨fun _ k => ?_, fun h => nomatch h⟩
    refine cF sgP_mono (ok_law_name T) (hr.mono (by decide)) T.mg_law_name T.F_law_name.kp T.b_law_name pass0 ?_
    refine ea_c ?_
    refine nm 1 ?_
    refine ea_c ?_
    refine nm 2 ?_
    refine ea_c ?_
    refine nm 6 ?_
    refine ea_nil ?_
    refine ask_p (r2, (x20 : Int)) rfl hl h (fun r24 l hl h => ?_)
    refine ⟨r24, rfl, h, l, hl, rfl⟩
  obtain ⟨l, hl, rfl⟩ := r
  refine bl_norm [some (.scr sc), some (.ref p), some (rp r2), some (rp r5), some (rp v8), some (rp acc15), none, some (rp acc22), none, none, none, none, none, none, none, none, none] [(p, .lst l)] ?_
  refine asgF 8 ?nd25 ?_
  case nd25 => exact nd
  refine cF sgP_mono (ok_law_name T) (hr.mono (by decide)) T.mg_law_name T.F_law_name.kp T.b_law_name pass0 ?_
  refine ea_c ?_
  refine nm 1 ?_
  refine ea_c ?_
  refine nm 2 ?_
  refine ea_c ?_
  refine ev_int ?_
  refine ea_nil ?_
  refine ask_p (r2, (11 : Int)) rfl hl h (fun r26 l hl h => ?_)
  refine bl_norm [some (.scr sc), some (.ref p), some (rp r2), some (rp r5), some (rp v8), some (rp acc15), none, some (rp acc22), some (rp r26), none, none, none, none, none, none, none, none] [(p, .lst l)] ?_
  refine asgF 9 ?nd27 ?_
  case nd27 => exact nd
  refine ev_bin ?_
  refine ev_bin ?_
  refine nm 3 ?_
  refine ev_str ?_
  obtain ⟨g28, h⟩ := h
  refine op_addNm r5 (⟨": ", by decide +kernel⟩ : Nm) g28 ?_
  refine ev_bm PySem.F.plainAttrs_str PySem.F.slot_str_join PySem.F.type_str_join ?_
  refine ev_str ?_
  refine And.intro rfl ?_
  refine ea_c ?_
  refine nm 5 ?_
  refine ea_nil ?_
  obtain ⟨g29, h⟩ := h
  refine mt_joinD acc15 g29 ?_
  obtain ⟨g30, h⟩ := h
  refine op_addNm (nmApp r5 (⟨": ", by decide +kernel⟩ : Nm)) (nmJnD acc15) g30 ?_
  refine bl_norm [some (.scr sc), some (.ref p), some (rp r2), some (rp r5), some (rp v8), some (rp acc15), none, some (rp acc22), some (rp r26), some (rp (nmApp (nmApp r5 (⟨": ", by decide +kernel⟩ : Nm)) (nmJnD acc15))), none, none, none, none, none, none, none] [(p, .lst l)] ?_
  refine ifb ?_
  refine et_cmp ?_
  obtain ⟨g31, h⟩ := h
  refine ev_partRow (P := P) (w := w) (base := base) T ⟨rfl, rfl, rfl, rfl, rfl⟩ rfl (hr.mono (by decide)) (n := r5) (st := acc15) (fun z => nm 3 z) (fun z => nm 5 z) g31.1 g31.2.1 g31.2.2 ?_ (by rfl)
  refine nm 9 ?_
  refine op_ne (rowP (newK true r5 acc15)) (nmApp (nmApp r5 (⟨": ", by decide +kernel⟩ : Nm)) (nmJnD acc15)) hu .val .val ?_
  refine xb ?_
  refine ⟨fun ht => ?_, fun ht => ?_⟩
  · replace h := h.1 ht
    refine ret ?_
    refine ev_bl ?_
    refine law_end h q
  replace h := h.2 ht
  refine nil ?_
  refine forb PassesOwn.never ?_
  refine ig_val ?_
  refine ev_lst ?_
  refine ea_c ?_
  refine ev_bl ?_
  refine ea_c ?_
  refine ev_bl ?_
  refine ea_few ?_
  refine it_l ([true, false]) ?_
  refine forU ?_
  refine forU_c ?_
  refine tn 10 ?nd32 ?_
  case nd32 => exact nd
  refine bl_norm [some (.scr sc), some (.ref p), some (rp r2), some (rp r5), some (rp v8), some (rp acc15), none, some (rp acc22), some (rp r26), some (rp (nmApp (nmApp r5 (⟨": ", by decide +kernel⟩ : Nm)) (nmJnD acc15))), some (rp true), none, none, none, none, none, none] [(p, .lst l)] ?_
  refine asgF 11 ?nd33 ?_
  case nd33 => exact nd
  refine ev_make (CX := CX0) Part_mono T.mk_Many (ok_Part_init T) (hr.mono (by decide)) (by rfl) T.mgC_Many T.b_Part_init .nil (fun _ => .nil) pass0 ?_
  refine ea_c ?_
  refine nm 3 ?_
  refine ea_c ?_
  refine nm 5 ?_
  obtain ⟨g34, h⟩ := h
  refine ea_nil (new_ka (a := a) (b := true) (n := r5) (st := acc15) g34.1 g34.2 (fun z35 hm37 k36 => ?_))
  refine bl_permR (Split.perm ((Split.right (kaM a z35 (newK true r5 acc15)) [(p, .lst l)]))) ?_
  refine bl_norm _ ((p, .lst l) :: (kaM a z35 (newK true r5 acc15))) ?_
  refine bl_norm [some (.scr sc), some (.ref p), some (rp r2), some (rp r5), some (rp v8), some (rp acc15), none, some (rp acc22), some (rp r26), some (rp (nmApp (nmApp r5 (⟨": ", by decide +kernel⟩ : Nm)) (nmJnD acc15))), some (rp true), some (.ref z35.x), none, none, none, none, none] ((p, .lst l) :: (kaM a z35 (newK true r5 acc15))) ?_
  refine asgF 12 ?nd38 ?_
  case nd38 => exact nd
  refine ev_str ?_
  refine bl_norm [some (.scr sc), some (.ref p), some (rp r2), some (rp r5), some (rp v8), some (rp acc15), none, some (rp acc22), some (rp r26), some (rp (nmApp (nmApp r5 (⟨": ", by decide +kernel⟩ : Nm)) (nmJnD acc15))), some (rp true), some (.ref z35.x), some (rp (⟨" (any number)", by decide +kernel⟩ : Nm)), none, none, none, none] ((p, .lst l) :: (kaM a z35 (newK true r5 acc15))) ?_
  refine ifb ?_
  refine et_val ?_
  refine nm 10 ?_
  refine xb ?_
  refine ⟨fun ht => ?_, (fun h => nomatch h)⟩
  refine asgF 11 ?nd39 ?_
  case nd39 => exact nd
  refine ev_make (CX := CX0) Part_mono T.mk_Single (ok_Part_init T) (hr.mono (by decide)) (by rfl) T.mgC_Single T.b_Part_init .nil (fun _ => .nil) pass0 ?_
  refine ea_c ?_
  refine nm 3 ?_
  refine ea_c ?_
  refine nm 5 ?_
  obtain ⟨g40, h⟩ := h
  refine ea_nil (new_ka (a := a) (b := false) (n := r5) (st := acc15) g40.1 g40.2 (fun z41 hm43 k42 => ?_))
  refine bl_permR (Split.perm ((Split.skip (.r ((Split.all (kaM a z35 (newK true r5 acc15))))) (kaM a z41 (newK false r5 acc15))))) ?_
  refine bl_permR (Split.perm ((Split.skip ((Split.right (kaM a z41 (newK false r5 acc15)) [(p, .lst l)])) (kaM a z35 (newK true r5 acc15))))) ?_
  refine bl_norm _ ((p, .lst l) :: ((kaM a z35 (newK true r5 acc15)) ++ (kaM a z41 (newK false r5 acc15)))) ?_
  refine bl_norm [some (.scr sc), some (.ref p), some (rp r2), some (rp r5), some (rp v8), some (rp acc15), none, some (rp acc22), some (rp r26), some (rp (nmApp (nmApp r5 (⟨": ", by decide +kernel⟩ : Nm)) (nmJnD acc15))), some (rp true), some (.ref z41.x), some (rp (⟨" (any number)", by decide +kernel⟩ : Nm)), none, none, none, none] ((p, .lst l) :: ((kaM a z35 (newK true r5 acc15)) ++ (kaM a z41 (newK false r5 acc15)))) ?_
  refine asgF 12 ?nd44 ?_
  case nd44 => exact nd
  refine ev_str ?_
  refine nil ?_
  refine bl_norm [some (.scr sc), some (.ref p), some (rp r2), some (rp r5), some (rp v8), some (rp acc15), none, some (rp acc22), some (rp r26), some (rp (nmApp (nmApp r5 (⟨": ", by decide +kernel⟩ : Nm)) (nmJnD acc15))), some (rp true), some (.ref z41.x), some (rp (⟨" (one)", by decide +kernel⟩ : Nm)), none, none, none, none] ((p, .lst l) :: ((kaM a z35 (newK true r5 acc15)) ++ (kaM a z41 (newK false r5 acc15)))) ?_
  refine asgF 13 ?nd45 ?_
  case nd45 => exact nd
  refine ev_permQ ?_
  refine cF sgU_mono (ok_law_filled T) (hr.mono (by decide)) T.mg_law_filled T.F_law_filled.kp T.b_law_filled pass_nx ?_
  refine ea_c ?_
  refine nm 1 ?_
  refine ea_c ?_
  refine nm 11 ?_
  refine ea_c ?_
  refine nm 5 ?_
  refine ea_c ?_
  refine nm 7 ?_
  refine ea_nil ?_
  refine ask_u ((newK false r5 acc15), acc15, acc22) (p, z41) (.l ((Split.right (kaM a z35 (newK true r5 acc15)) (kaM a z41 (newK false r5 acc15))))) rfl ⟨l, hl, k42, rfl⟩ h (fun r46 d μ1 h hz => ?_) (fun c fs y47 μ1 h hp hz => h.elim)
  obtain ⟨l, hl, rfl, k49, rfl⟩ := hz
  refine ⟨((p, .lst l) :: ((kaM a z35 (newK true r5 acc15)) ++ (kaM a z41 r46.2))), (Split.perm (.l ((Split.right (kaM a z35 (newK true r5 acc15)) (kaM a z41 r46.2))))).symm, ?_⟩
  refine bl_norm [some (.scr sc), some (.ref p), some (rp r2), some (rp r5), some (rp v8), some (rp acc15), none, some (rp acc22), some (rp r26), some (rp (nmApp (nmApp r5 (⟨": ", by decide +kernel⟩ : Nm)) (nmJnD acc15))), some (rp true), some (.ref z41.x), some (rp (⟨" (one)", by decide +kernel⟩ : Nm)), some (rp r46.1), none, none, none] ((p, .lst l) :: ((kaM a z35 (newK true r5 acc15)) ++ (kaM a z41 r46.2))) ?_
  refine asgF 14 ?nd50 ?_
  case nd50 => exact nd
  refine ev_tup ?_
  refine ea_c ?_
  refine nm 3 ?_
  refine ea_c ?_
  refine cT T.z_tuple b_tuple ?_
  refine ea_c ?_
  refine nm 5 ?_
  refine ea_nil ?_
  refine c_tuple acc15 (.l (.val _)) ?_
  refine ea_c ?_
  refine nm 13 ?_
  refine ea_c ?_
  refine ev_bin ?_
  refine nm 9 ?_
  refine nm 12 ?_
  obtain ⟨g51, h⟩ := h
  refine op_addNm (nmApp (nmApp r5 (⟨": ", by decide +kernel⟩ : Nm)) (nmJnD acc15)) (⟨" (one)", by decide +kernel⟩ : Nm) g51 ?_
  refine ea_few ?_
  refine asgF 15 ?nd52 ?_
  case nd52 => exact nd
  refine ev_lst ?_
  refine ea_c ?_
  refine nm 11 ?_
  refine ea_c ?_
  refine ev_twinK (P := P) (w := w) (base := base) T ⟨rfl, rfl, rfl, rfl, rfl⟩ rfl (hr.mono (by decide)) (.r ((Split.right (kaM a z35 (newK true r5 acc15)) (kaM a z41 r46.2)))) k49 (fun z => nm 11 z) (fun z53 _ k54 => ?_)
  refine ea_few ?_
  refine bl_permR (Split.perm ((Split.skip ((Split.left (kaM a z41 r46.2) ((p, .lst l) :: (kaM a z35 (newK true r5 acc15))))) (kaM a z53 r46.2)))) ?_
  refine bl_permR (Split.perm ((Split.skip ((Split.skip (.r ((Split.all (kaM a z35 (newK true r5 acc15))))) (kaM a z53 r46.2))) (kaM a z41 r46.2)))) ?_
  refine bl_permR (Split.perm ((Split.skip ((Split.skip ((Split.right (kaM a z53 r46.2) [(p, .lst l)])) (kaM a z41 r46.2))) (kaM a z35 (newK true r5 acc15))))) ?_
  refine bl_norm _ ((p, .lst l) :: ((kaM a z35 (newK true r5 acc15)) ++ ((kaM a z41 r46.2) ++ (kaM a z53 r46.2)))) ?_
  refine bl_norm [some (.scr sc), some (.ref p), some (rp r2), some (rp r5), some (rp v8), some (rp acc15), none, some (rp acc22), some (rp r26), some (rp (nmApp (nmApp r5 (⟨": ", by decide +kernel⟩ : Nm)) (nmJnD acc15))), some (rp true), some (.ref z41.x), some (rp (⟨" (one)", by decide +kernel⟩ : Nm)), some (rp r46.1), some (rp (T4.mk r5 (Tu.mk acc15) r46.1 (nmApp (nmApp (nmApp r5 (⟨": ", by decide +kernel⟩ : Nm)) (nmJnD acc15)) (⟨" (one)", by decide +kernel⟩ : Nm)))), some (.lst [.ref z41.x, .ref z53.x]), none] ((p, .lst l) :: ((kaM a z35 (newK true r5 acc15)) ++ ((kaM a z41 r46.2) ++ (kaM a z53 r46.2)))) ?_
  obtain ⟨U55, h, hU⟩ := h
  refine ifb ?_
  refine et_cut U55 (fun μ' => ∃ l, PoolOk l ∧ μ' = ((p, .lst l) :: ((kaM a z35 (newK true r5 acc15)) ++ ((kaM a z41 r46.2) ++ (kaM a z53 r46.2))))) ?_ (fun b μ' hb r => ?_)
  · refine et_w ?_
    refine ew_or ?_
    refine et_cmp ?_
    refine ev_permQ ?_
    refine cF sgU_mono (ok_law_told T) (hr.mono (by decide)) T.mg_law_told T.F_law_told.kp T.b_law_told pass_nx ?_
    refine ea_c ?_
    refine ixF ?_
    refine nm 15 ?_
    refine ev_int ?_
    refine ix_f (l := [.ref z41.x, .ref z53.x]) (.ref z41.x) ?_
    refine ea_c ?_
    refine nm 10 ?_
    refine ea_nil ?_
    refine ask_u (r46.2, true) z41 (.r ((Split.skip ((Split.left (kaM a z41 r46.2) (kaM a z53 r46.2))) (kaM a z35 (newK true r5 acc15))))) rfl ⟨k49, rfl⟩ h (fun r56 d μ1 h hz => ?_) (fun c fs y57 μ1 h hp hz => h.elim)
    obtain ⟨rfl, k59, rfl⟩ := hz
    refine ⟨((p, .lst l) :: ((kaM a z35 (newK true r5 acc15)) ++ ((kaM a z41 r46.2) ++ (kaM a z53 r46.2)))), (Split.perm (.r ((Split.skip ((Split.left (kaM a z41 r46.2) (kaM a z53 r46.2))) (kaM a z35 (newK true r5 acc15)))))).symm, ?_⟩
    refine nm 14 ?_
    refine op_ne r56 (T4.mk r5 (Tu.mk acc15) r46.1 (nmApp (nmApp (nmApp r5 (⟨": ", by decide +kernel⟩ : Nm)) (nmJnD acc15)) (⟨" (one)", by decide +kernel⟩ : Nm))) hu .val .val ?_
    refine xb ?_
    refine ⟨fun ht => ?_, fun ht => ?_⟩
    · replace h := h.1 ht
      refine ew_or1 ?_
      refine et_cmp ?_
      refine ev_permQ ?_
      refine cF sgU_mono (ok_law_told T) (hr.mono (by decide)) T.mg_law_told T.F_law_told.kp T.b_law_told pass_nx ?_
      refine ea_c ?_
      refine ixF ?_
      refine nm 15 ?_
      refine ev_int ?_
      refine ix_f (l := [.ref z41.x, .ref z53.x]) (.ref z53.x) ?_
      refine ea_c ?_
      refine nm 10 ?_
      refine ea_nil ?_
      refine ask_u (r46.2, true) z53 (.r ((Split.skip ((Split.right (kaM a z41 r46.2) (kaM a z53 r46.2))) (kaM a z35 (newK true r5 acc15))))) rfl ⟨k54, rfl⟩ h (fun r60 d μ1 h hz => ?_) (fun c fs y61 μ1 h hp hz => h.elim)
      obtain ⟨rfl, k63, rfl⟩ := hz
      refine ⟨((p, .lst l) :: ((kaM a z35 (newK true r5 acc15)) ++ ((kaM a z41 r46.2) ++ (kaM a z53 r46.2)))), (Split.perm (.r ((Split.skip ((Split.right (kaM a z41 r46.2) (kaM a z53 r46.2))) (kaM a z35 (newK true r5 acc15)))))).symm, ?_⟩
      refine nm 14 ?_
      refine op_ne r60 (T4.mk r5 (Tu.mk acc15) r46.1 (nmApp (nmApp (nmApp r5 (⟨": ", by decide +kernel⟩ : Nm)) (nmJnD acc15)) (⟨" (one)", by decide +kernel⟩ : Nm))) hu .val .val ?_
      refine xb ?_
      refine ⟨h, l, hl, rfl⟩
    · replace h := h.2 ht
      refine ⟨h, l, hl, rfl⟩
  obtain ⟨l, hl, rfl⟩ := r
  replace h := hU b hb
  refine ⟨fun ht => ?_, fun ht => ?_⟩
  · replace h := h.1 ht
    refine ret ?_
    refine ev_bl ?_
    refine law_end h q
  replace h := h.2 ht
  refine nil ?_
  refine asgF 16 ?nd64 ?_
  case nd64 => exact nd
  refine cF take_mono (ok_take T) (hr.mono (by decide)) T.mg_law_take T.F_law_take.kp T.b_law_take pass0 ?_
  refine ea_c ?_
  refine nm 1 ?_
  refine ea_c ?_
  refine ev_int ?_
  refine ea_nil ?_
  refine ask_t hl h fun r65 l hl h => ?_
  obtain ⟨hA, hB, hC⟩ := h
  rcases hC with er | er
  · subst er
    have h := hA rfl
    refine bl_norm [some (.scr sc), some (.ref p), some (rp r2), some (rp r5), some (rp v8), some (rp acc15), none, some (rp acc22), some (rp r26), some (rp (nmApp (nmApp r5 (⟨": ", by decide +kernel⟩ : Nm)) (nmJnD acc15))), some (rp true), some (.ref z41.x), some (rp (⟨" (one)", by decide +kernel⟩ : Nm)), some (rp r46.1), some (rp (T4.mk r5 (Tu.mk acc15) r46.1 (nmApp (nmApp (nmApp r5 (⟨": ", by decide +kernel⟩ : Nm)) (nmJnD acc15)) (⟨" (one)", by decide +kernel⟩ : Nm)))), some (.lst [.ref z41.x, .ref z53.x]), some (rp (0 : Int))] ((p, .lst l) :: ((kaM a z35 (newK true r5 acc15)) ++ ((kaM a z41 r46.2) ++ (kaM a z53 r46.2)))) ?_
    refine ifb ?_
    refine et_not ?_
    refine et_val ?_
    refine ev_permQ ?_
    refine cF sgU_mono (ok_law_apart T) (hr.mono (by decide)) T.mg_law_apart T.F_law_apart.kp T.b_law_apart pass_nx ?_
    refine ea_c ?_
    refine ixF ?_
    refine nm 15 ?_
    refine nm 16 ?_
    refine ix_f (l := [.ref z41.x, .ref z53.x]) (.ref z41.x) ?_
    refine ea_c ?_
    refine ixF ?_
    refine nm 15 ?_
    refine ev_bin ?_
    refine ev_int ?_
    refine nm 16 ?_
    refine og_subI ?_
    refine ix_f (l := [.ref z41.x, .ref z53.x]) (.ref z53.x) ?_
    refine ea_c ?_
    refine nm 10 ?_
    refine ea_c ?_
    refine nm 14 ?_
    refine ea_c ?_
    refine nm 8 ?_
    refine ea_nil ?_
    refine ask_u (r46.2, r46.2, true, (T4.mk r5 (Tu.mk acc15) r46.1 (nmApp (nmApp (nmApp r5 (⟨": ", by decide +kernel⟩ : Nm)) (nmJnD acc15)) (⟨" (one)", by decide +kernel⟩ : Nm))), r26) (z41, z53) (.r ((Split.right (kaM a z35 (newK true r5 acc15)) ((kaM a z41 r46.2) ++ (kaM a z53 r46.2))))) rfl ⟨k49, k54, rfl⟩ h (fun r66 d μ1 h hz => ?_) (fun c fs y67 μ1 h hp hz => h.elim)
    obtain ⟨rfl, k70, k71, rfl⟩ := hz
    refine ⟨((p, .lst l) :: ((kaM a z35 (newK true r5 acc15)) ++ ((kaM a z41 r66.2.1) ++ (kaM a z53 r66.2.2)))), (Split.perm (.r ((Split.right (kaM a z35 (newK true r5 acc15)) ((kaM a z41 r66.2.1) ++ (kaM a z53 r66.2.2)))))).symm, ?_⟩
    refine xb ?_
    refine ⟨fun ht => ?_, fun ht => ?_⟩
    · replace h := h.1 ht
      refine bl_norm [some (.scr sc), some (.ref p), some (rp r2), some (rp r5), some (rp v8), some (rp acc15), none, some (rp acc22), some (rp r26), some (rp (nmApp (nmApp r5 (⟨": ", by decide +kernel⟩ : Nm)) (nmJnD acc15))), some (rp true), some (.ref z41.x), some (rp (⟨" (one)", by decide +kernel⟩ : Nm)), some (rp r46.1), some (rp (T4.mk r5 (Tu.mk acc15) r46.1 (nmApp (nmApp (nmApp r5 (⟨": ", by decide +kernel⟩ : Nm)) (nmJnD acc15)) (⟨" (one)", by decide +kernel⟩ : Nm)))), some (.lst [.ref z41.x, .ref z53.x]), some (rp (0 : Int))] ((p, .lst l) :: ((kaM a z35 (newK true r5 acc15)) ++ ((kaM a z41 r66.2.1) ++ (kaM a z53 r66.2.2)))) ?_
      refine ret ?_
      refine ev_bl ?_
      refine law_end h q
    replace h := h.2 ht
    refine nil ?_
    refine nil ?_
    refine forU_c ?_
    refine tn 10 ?nd72 ?_
    case nd72 => exact nd
    refine bl_norm [some (.scr sc), some (.ref p), some (rp r2), some (rp r5), some (rp v8), some (rp acc15), none, some (rp acc22), some (rp r26), some (rp (nmApp (nmApp r5 (⟨": ", by decide +kernel⟩ : Nm)) (nmJnD acc15))), some (rp false), some (.ref z41.x), some (rp (⟨" (one)", by decide +kernel⟩ : Nm)), some (rp r46.1), some (rp (T4.mk r5 (Tu.mk acc15) r46.1 (nmApp (nmApp (nmApp r5 (⟨": ", by decide +kernel⟩ : Nm)) (nmJnD acc15)) (⟨" (one)", by decide +kernel⟩ : Nm)))), some (.lst [.ref z41.x, .ref z53.x]), some (rp (0 : Int))] ((p, .lst l) :: ((kaM a z35 (newK true r5 acc15)) ++ ((kaM a z41 r66.2.1) ++ (kaM a z53 r66.2.2)))) ?_
    refine asgF 11 ?nd73 ?_
    case nd73 => exact nd
    refine ev_make (CX := CX0) Part_mono T.mk_Many (ok_Part_init T) (hr.mono (by decide)) (by rfl) T.mgC_Many T.b_Part_init .nil (fun _ => .nil) pass0 ?_
    refine ea_c ?_
    refine nm 3 ?_
    refine ea_c ?_
    refine nm 5 ?_
    obtain ⟨g74, h⟩ := h
    refine ea_nil (new_ka (a := a) (b := true) (n := r5) (st := acc15) g74.1 g74.2 (fun z75 hm77 k76 => ?_))
    refine bl_permR (Split.perm ((Split.skip (.r ((Split.skip ((Split.right (kaM a z41 r66.2.1) (kaM a z53 r66.2.2))) (kaM a z35 (newK true r5 acc15))))) (kaM a z75 (newK true r5 acc15))))) ?_
    refine bl_permR (Split.perm ((Split.skip ((Split.skip (.r ((Split.right (kaM a z35 (newK true r5 acc15)) (kaM a z41 r66.2.1)))) (kaM a z75 (newK true r5 acc15)))) (kaM a z53 r66.2.2)))) ?_
    refine bl_permR (Split.perm ((Split.skip ((Split.skip ((Split.skip (.r ((Split.all (kaM a z35 (newK true r5 acc15))))) (kaM a z75 (newK true r5 acc15)))) (kaM a z53 r66.2.2))) (kaM a z41 r66.2.1)))) ?_
    refine bl_permR (Split.perm ((Split.skip ((Split.skip ((Split.skip ((Split.right (kaM a z75 (newK true r5 acc15)) [(p, .lst l)])) (kaM a z53 r66.2.2))) (kaM a z41 r66.2.1))) (kaM a z35 (newK true r5 acc15))))) ?_
    refine bl_norm _ ((p, .lst l) :: ((kaM a z35 (newK true r5 acc15)) ++ ((kaM a z41 r66.2.1) ++ ((kaM a z53 r66.2.2) ++ (kaM a z75 (newK true r5 acc15)))))) ?_
    refine bl_norm [some (.scr sc), some (.ref p), some (rp r2), some (rp r5), some (rp v8), some (rp acc15), none, some (rp acc22), some (rp r26), some (rp (nmApp (nmApp r5 (⟨": ", by decide +kernel⟩ : Nm)) (nmJnD acc15))), some (rp false), some (.ref z75.x), some (rp (⟨" (one)", by decide +kernel⟩ : Nm)), some (rp r46.1), some (rp (T4.mk r5 (Tu.mk acc15) r46.1 (nmApp (nmApp (nmApp r5 (⟨": ", by decide +kernel⟩ : Nm)) (nmJnD acc15)) (⟨" (one)", by decide +kernel⟩ : Nm)))), some (.lst [.ref z41.x, .ref z53.x]), some (rp (0 : Int))] ((p, .lst l) :: ((kaM a z35 (newK true r5 acc15)) ++ ((kaM a z41 r66.2.1) ++ ((kaM a z53 r66.2.2) ++ (kaM a z75 (newK true r5 acc15)))))) ?_
    refine asgF 12 ?nd78 ?_
    case nd78 => exact nd
    refine ev_str ?_
    refine bl_norm [some (.scr sc), some (.ref p), some (rp r2), some (rp r5), some (rp v8), some (rp acc15), none, some (rp acc22), some (rp r26), some (rp (nmApp (nmApp r5 (⟨": ", by decide +kernel⟩ : Nm)) (nmJnD acc15))), some (rp false), some (.ref z75.x), some (rp (⟨" (any number)", by decide +kernel⟩ : Nm)), some (rp r46.1), some (rp (T4.mk r5 (Tu.mk acc15) r46.1 (nmApp (nmApp (nmApp r5 (⟨": ", by decide +kernel⟩ : Nm)) (nmJnD acc15)) (⟨" (one)", by decide +kernel⟩ : Nm)))), some (.lst [.ref z41.x, .ref z53.x]), some (rp (0 : Int))] ((p, .lst l) :: ((kaM a z35 (newK true r5 acc15)) ++ ((kaM a z41 r66.2.1) ++ ((kaM a z53 r66.2.2) ++ (kaM a z75 (newK true r5 acc15)))))) ?_
    refine ifb ?_
    refine et_val ?_
    refine nm 10 ?_
    refine xb ?_
    refine ⟨(fun h => nomatch h), fun ht => ?_⟩
    refine nil ?_
    refine asgF 13 ?nd79 ?_
    case nd79 => exact nd
    refine ev_permQ ?_
    refine cF sgU_mono (ok_law_filled T) (hr.mono (by decide)) T.mg_law_filled T.F_law_filled.kp T.b_law_filled pass_nx ?_
    refine ea_c ?_
    refine nm 1 ?_
    refine ea_c ?_
    refine nm 11 ?_
    refine ea_c ?_
    refine nm 5 ?_
    refine ea_c ?_
    refine nm 7 ?_
    refine ea_nil ?_
    refine ask_u ((newK true r5 acc15), acc15, acc22) (p, z75) (.l ((Split.skip ((Split.skip ((Split.right (kaM a z53 r66.2.2) (kaM a z75 (newK true r5 acc15)))) (kaM a z41 r66.2.1))) (kaM a z35 (newK true r5 acc15))))) rfl ⟨l, hl, k76, rfl⟩ h (fun r80 d μ1 h hz => ?_) (fun c fs y81 μ1 h hp hz => h.elim)
    obtain ⟨l, hl, rfl, k83, rfl⟩ := hz
    refine ⟨((p, .lst l) :: ((kaM a z35 (newK true r5 acc15)) ++ ((kaM a z41 r66.2.1) ++ ((kaM a z53 r66.2.2) ++ (kaM a z75 r80.2))))), (Split.perm (.l ((Split.skip ((Split.skip ((Split.right (kaM a z53 r66.2.2) (kaM a z75 r80.2))) (kaM a z41 r66.2.1))) (kaM a z35 (newK true r5 acc15)))))).symm, ?_⟩
    refine bl_norm [some (.scr sc), some (.ref p), some (rp r2), some (rp r5), some (rp v8), some (rp acc15), none, some (rp acc22), some (rp r26), some (rp (nmApp (nmApp r5 (⟨": ", by decide +kernel⟩ : Nm)) (nmJnD acc15))), some (rp false), some (.ref z75.x), some (rp (⟨" (any number)", by decide +kernel⟩ : Nm)), some (rp r80.1), some (rp (T4.mk r5 (Tu.mk acc15) r46.1 (nmApp (nmApp (nmApp r5 (⟨": ", by decide +kernel⟩ : Nm)) (nmJnD acc15)) (⟨" (one)", by decide +kernel⟩ : Nm)))), some (.lst [.ref z41.x, .ref z53.x]), some (rp (0 : Int))] ((p, .lst l) :: ((kaM a z35 (newK true r5 acc15)) ++ ((kaM a z41 r66.2.1) ++ ((kaM a z53 r66.2.2) ++ (kaM a z75 r80.2))))) ?_
    refine asgF 14 ?nd84 ?_
    case nd84 => exact nd
    refine ev_tup ?_
    refine ea_c ?_
    refine nm 3 ?_
    refine ea_c ?_
    refine cT T.z_tuple b_tuple ?_
    refine ea_c ?_
    refine nm 5 ?_
    refine ea_nil ?_
    refine c_tuple acc15 (.l (.val _)) ?_
    refine ea_c ?_
    refine nm 13 ?_
    refine ea_c ?_
    refine ev_bin ?_
    refine nm 9 ?_
    refine nm 12 ?_
    obtain ⟨g85, h⟩ := h
    refine op_addNm (nmApp (nmApp r5 (⟨": ", by decide +kernel⟩ : Nm)) (nmJnD acc15)) (⟨" (any number)", by decide +kernel⟩ : Nm) g85 ?_
    refine ea_few ?_
    refine asgF 15 ?nd86 ?_
    case nd86 => exact nd
    refine ev_lst ?_
    refine ea_c ?_
    refine nm 11 ?_
    refine ea_c ?_
    refine ev_twinK (P := P) (w := w) (base := base) T ⟨rfl, rfl, rfl, rfl, rfl⟩ rfl (hr.mono (by decide)) (.r ((Split.skip ((Split.skip ((Split.right (kaM a z53 r66.2.2) (kaM a z75 r80.2))) (kaM a z41 r66.2.1))) (kaM a z35 (newK true r5 acc15))))) k83 (fun z => nm 11 z) (fun z87 _ k88 => ?_)
    refine ea_few ?_
    refine bl_permR (Split.perm ((Split.skip ((Split.left (kaM a z75 r80.2) ((p, .lst l) :: ((kaM a z35 (newK true r5 acc15)) ++ ((kaM a z41 r66.2.1) ++ (kaM a z53 r66.2.2)))))) (kaM a z87 r80.2)))) ?_
    refine bl_permR (Split.perm ((Split.skip ((Split.skip (.r ((Split.skip ((Split.right (kaM a z41 r66.2.1) (kaM a z53 r66.2.2))) (kaM a z35 (newK true r5 acc15))))) (kaM a z87 r80.2))) (kaM a z75 r80.2)))) ?_
    refine bl_permR (Split.perm ((Split.skip ((Split.skip ((Split.skip (.r ((Split.right (kaM a z35 (newK true r5 acc15)) (kaM a z41 r66.2.1)))) (kaM a z87 r80.2))) (kaM a z75 r80.2))) (kaM a z53 r66.2.2)))) ?_
    refine bl_permR (Split.perm ((Split.skip ((Split.skip ((Split.skip ((Split.skip (.r ((Split.all (kaM a z35 (newK true r5 acc15))))) (kaM a z87 r80.2))) (kaM a z75 r80.2))) (kaM a z53 r66.2.2))) (kaM a z41 r66.2.1)))) ?_
    refine bl_permR (Split.perm ((Split.skip ((Split.skip ((Split.skip ((Split.skip ((Split.right (kaM a z87 r80.2) [(p, .lst l)])) (kaM a z75 r80.2))) (kaM a z53 r66.2.2))) (kaM a z41 r66.2.1))) (kaM a z35 (newK true r5 acc15))))) ?_
    refine bl_norm _ ((p, .lst l) :: ((kaM a z35 (newK true r5 acc15)) ++ ((kaM a z41 r66.2.1) ++ ((kaM a z53 r66.2.2) ++ ((kaM a z75 r80.2) ++ (kaM a z87 r80.2)))))) ?_
    refine bl_norm [some (.scr sc), some (.ref p), some (rp r2), some (rp r5), some (rp v8), some (rp acc15), none, some (rp acc22), some (rp r26), some (rp (nmApp (nmApp r5 (⟨": ", by decide +kernel⟩ : Nm)) (nmJnD acc15))), some (rp false), some (.ref z75.x), some (rp (⟨" (any number)", by decide +kernel⟩ : Nm)), some (rp r80.1), some (rp (T4.mk r5 (Tu.mk acc15) r80.1 (nmApp (nmApp (nmApp r5 (⟨": ", by decide +kernel⟩ : Nm)) (nmJnD acc15)) (⟨" (any number)", by decide +kernel⟩ : Nm)))), some (.lst [.ref z75.x, .ref z87.x]), some (rp (0 : Int))] ((p, .lst l) :: ((kaM a z35 (newK true r5 acc15)) ++ ((kaM a z41 r66.2.1) ++ ((kaM a z53 r66.2.2) ++ ((kaM a z75 r80.2) ++ (kaM a z87 r80.2)))))) ?_
    obtain ⟨U89, h, hU⟩ := h
    refine ifb ?_
    refine et_cut U89 (fun μ' => ∃ l, PoolOk l ∧ μ' = ((p, .lst l) :: ((kaM a z35 (newK true r5 acc15)) ++ ((kaM a z41 r66.2.1) ++ ((kaM a z53 r66.2.2) ++ ((kaM a z75 r80.2) ++ (kaM a z87 r80.2))))))) ?_ (fun b μ' hb r => ?_)
    · refine et_w ?_
      refine ew_or ?_
      refine et_cmp ?_
      refine ev_permQ ?_
      refine cF sgU_mono (ok_law_told T) (hr.mono (by decide)) T.mg_law_told T.F_law_told.kp T.b_law_told pass_nx ?_
      refine ea_c ?_
      refine ixF ?_
      refine nm 15 ?_
      refine ev_int ?_
      refine ix_f (l := [.ref z75.x, .ref z87.x]) (.ref z75.x) ?_
      refine ea_c ?_
      refine nm 10 ?_
      refine ea_nil ?_
      refine ask_u (r80.2, false) z75 (.r ((Split.skip ((Split.skip ((Split.skip ((Split.left (kaM a z75 r80.2) (kaM a z87 r80.2))) (kaM a z53 r66.2.2))) (kaM a z41 r66.2.1))) (kaM a z35 (newK true r5 acc15))))) rfl ⟨k83, rfl⟩ h (fun r90 d μ1 h hz => ?_) (fun c fs y91 μ1 h hp hz => h.elim)
      obtain ⟨rfl, k93, rfl⟩ := hz
      refine ⟨((p, .lst l) :: ((kaM a z35 (newK true r5 acc15)) ++ ((kaM a z41 r66.2.1) ++ ((kaM a z53 r66.2.2) ++ ((kaM a z75 r80.2) ++ (kaM a z87 r80.2)))))), (Split.perm (.r ((Split.skip ((Split.skip ((Split.skip ((Split.left (kaM a z75 r80.2) (kaM a z87 r80.2))) (kaM a z53 r66.2.2))) (kaM a z41 r66.2.1))) (kaM a z35 (newK true r5 acc15)))))).symm, ?_⟩
      refine nm 14 ?_
      refine op_ne r90 (T4.mk r5 (Tu.mk acc15) r80.1 (nmApp (nmApp (nmApp r5 (⟨": ", by decide +kernel⟩ : Nm)) (nmJnD acc15)) (⟨" (any number)", by decide +kernel⟩ : Nm))) hu .val .val ?_
      refine xb ?_
      refine ⟨fun ht => ?_, fun ht => ?_⟩
      · replace h := h.1 ht
        refine ew_or1 ?_
        refine et_cmp ?_
        refine ev_permQ ?_
        refine cF sgU_mono (ok_law_told T) (hr.mono (by decide)) T.mg_law_told T.F_law_told.kp T.b_law_told pass_nx ?_
        refine ea_c ?_
        refine ixF ?_
        refine nm 15 ?_
        refine ev_int ?_
        refine ix_f (l := [.ref z75.x, .ref z87.x]) (.ref z87.x) ?_
        refine ea_c ?_
        refine nm 10 ?_
        refine ea_nil ?_
        refine ask_u (r80.2, false) z87 (.r ((Split.skip ((Split.skip ((Split.skip ((Split.right (kaM a z75 r80.2) (kaM a z87 r80.2))) (kaM a z53 r66.2.2))) (kaM a z41 r66.2.1))) (kaM a z35 (newK true r5 acc15))))) rfl ⟨k88, rfl⟩ h (fun r94 d μ1 h hz => ?_) (fun c fs y95 μ1 h hp hz => h.elim)
        obtain ⟨rfl, k97, rfl⟩ := hz
        refine ⟨((p, .lst l) :: ((kaM a z35 (newK true r5 acc15)) ++ ((kaM a z41 r66.2.1) ++ ((kaM a z53 r66.2.2) ++ ((kaM a z75 r80.2) ++ (kaM a z87 r80.2)))))), (Split.perm (.r ((Split.skip ((Split.skip ((Split.skip ((Split.right (kaM a z75 r80.2) (kaM a z87 r80.2))) (kaM a z53 r66.2.2))) (kaM a z41 r66.2.1))) (kaM a z35 (newK true r5 acc15)))))).symm, ?_⟩
        refine nm 14 ?_
        refine op_ne r94 (T4.mk r5 (Tu.mk acc15) r80.1 (nmApp (nmApp (nmApp r5 (⟨": ", by decide +kernel⟩ : Nm)) (nmJnD acc15)) (⟨" (any number)", by decide +kernel⟩ : Nm))) hu .val .val ?_
        refine xb ?_
        refine ⟨h, l, hl, rfl⟩
      · replace h := h.2 ht
        refine ⟨h, l, hl, rfl⟩
    obtain ⟨l, hl, rfl⟩ := r
    replace h := hU b hb
    refine ⟨fun ht => ?_, fun ht => ?_⟩
    · replace h := h.1 ht
      refine ret ?_
      refine ev_bl ?_
      refine law_end h q
    replace h := h.2 ht
    refine nil ?_
    refine asgF 16 ?nd98 ?_
    case nd98 => exact nd
    refine cF take_mono (ok_take T) (hr.mono (by decide)) T.mg_law_take T.F_law_take.kp T.b_law_take pass0 ?_
    refine ea_c ?_
    refine nm 1 ?_
    refine ea_c ?_
    refine ev_int ?_
    refine ea_nil ?_
    refine ask_t hl h fun r99 l hl h => ?_
    obtain ⟨hA, hB, hC⟩ := h
    rcases hC with er | er
    · subst er
      have h := hA rfl
      refine ifb ?_
      refine et_not ?_
      refine et_val ?_
      refine ev_permQ ?_
      refine cF sgU_mono (ok_law_apart T) (hr.mono (by decide)) T.mg_law_apart T.F_law_apart.kp T.b_law_apart pass_nx ?_
      refine ea_c ?_
      refine ixF ?_
      refine nm 15 ?_
      refine nm 16 ?_
      refine ix_f (l := [.ref z75.x, .ref z87.x]) (.ref z75.x) ?_
      refine ea_c ?_
      refine ixF ?_
      refine nm 15 ?_
      refine ev_bin ?_
      refine ev_int ?_
      refine nm 16 ?_
      refine og_subI ?_
      refine ix_f (l := [.ref z75.x, .ref z87.x]) (.ref z87.x) ?_
      refine ea_c ?_
      refine nm 10 ?_
      refine ea_c ?_
      refine nm 14 ?_
      refine ea_c ?_
      refine nm 8 ?_
      refine ea_nil ?_
      refine ask_u (r80.2, r80.2, false, (T4.mk r5 (Tu.mk acc15) r80.1 (nmApp (nmApp (nmApp r5 (⟨": ", by decide +kernel⟩ : Nm)) (nmJnD acc15)) (⟨" (any number)", by decide +kernel⟩ : Nm))), r26) (z75, z87) (.r ((Split.skip ((Split.skip ((Split.right (kaM a z53 r66.2.2) ((kaM a z75 r80.2) ++ (kaM a z87 r80.2)))) (kaM a z41 r66.2.1))) (kaM a z35 (newK true r5 acc15))))) rfl ⟨k83, k88, rfl⟩ h (fun r100 d μ1 h hz => ?_) (fun c fs y101 μ1 h hp hz => h.elim)
      obtain ⟨rfl, k104, k105, rfl⟩ := hz
      refine ⟨((p, .lst l) :: ((kaM a z35 (newK true r5 acc15)) ++ ((kaM a z41 r66.2.1) ++ ((kaM a z53 r66.2.2) ++ ((kaM a z75 r100.2.1) ++ (kaM a z87 r100.2.2)))))), (Split.perm (.r ((Split.skip ((Split.skip ((Split.right (kaM a z53 r66.2.2) ((kaM a z75 r100.2.1) ++ (kaM a z87 r100.2.2)))) (kaM a z41 r66.2.1))) (kaM a z35 (newK true r5 acc15)))))).symm, ?_⟩
      refine xb ?_
      refine ⟨fun ht => ?_, fun ht => ?_⟩
      · replace h := h.1 ht
        refine bl_norm [some (.scr sc), some (.ref p), some (rp r2), some (rp r5), some (rp v8), some (rp acc15), none, some (rp acc22), some (rp r26), some (rp (nmApp (nmApp r5 (⟨": ", by decide +kernel⟩ : Nm)) (nmJnD acc15))), some (rp false), some (.ref z75.x), some (rp (⟨" (any number)", by decide +kernel⟩ : Nm)), some (rp r80.1), some (rp (T4.mk r5 (Tu.mk acc15) r80.1 (nmApp (nmApp (nmApp r5 (⟨": ", by decide +kernel⟩ : Nm)) (nmJnD acc15)) (⟨" (any number)", by decide +kernel⟩ : Nm)))), some (.lst [.ref z75.x, .ref z87.x]), some (rp (0 : Int))] ((p, .lst l) :: ((kaM a z35 (newK true r5 acc15)) ++ ((kaM a z41 r66.2.1) ++ ((kaM a z53 r66.2.2) ++ ((kaM a z75 r100.2.1) ++ (kaM a z87 r100.2.2)))))) ?_
        refine ret ?_
        refine ev_bl ?_
        refine law_end h q
      replace h := h.2 ht
      refine nil ?_
      refine nil ?_
      refine bl_id ?_
      refine ret ?_
      refine ev_bl ?_
      refine law_end h q
    · subst er
      have h := hB rfl
      refine bl_permR (Split.perm (.r ((Split.skip ((Split.skip ((Split.skip ((Split.left (kaM a z75 r80.2) (kaM a z87 r80.2))) (kaM a z53 r66.2.2))) (kaM a z41 r66.2.1))) (kaM a z35 (newK true r5 acc15)))))) ?_
      refine bl_permR (Split.perm ((Split.skip (.r ((Split.skip ((Split.skip ((Split.right (kaM a z53 r66.2.2) (kaM a z87 r80.2))) (kaM a z41 r66.2.1))) (kaM a z35 (newK true r5 acc15))))) (kaM a z75 r80.2)))) ?_
      refine bl_permR (Split.perm ((Split.skip ((Split.skip (.r ((Split.skip ((Split.right (kaM a z41 r66.2.1) (kaM a z53 r66.2.2))) (kaM a z35 (newK true r5 acc15))))) (kaM a z75 r80.2))) (kaM a z87 r80.2)))) ?_
      refine bl_permR (Split.perm ((Split.skip ((Split.skip ((Split.skip (.r ((Split.right (kaM a z35 (newK true r5 acc15)) (kaM a z41 r66.2.1)))) (kaM a z75 r80.2))) (kaM a z87 r80.2))) (kaM a z53 r66.2.2)))) ?_
      refine bl_permR (Split.perm ((Split.skip ((Split.skip ((Split.skip ((Split.skip (.r ((Split.all (kaM a z35 (newK true r5 acc15))))) (kaM a z75 r80.2))) (kaM a z87 r80.2))) (kaM a z53 r66.2.2))) (kaM a z41 r66.2.1)))) ?_
      refine bl_permR (Split.perm ((Split.skip ((Split.skip ((Split.skip ((Split.skip ((Split.right (kaM a z75 r80.2) [(p, .lst l)])) (kaM a z87 r80.2))) (kaM a z53 r66.2.2))) (kaM a z41 r66.2.1))) (kaM a z35 (newK true r5 acc15))))) ?_
      refine bl_norm _ ((p, .lst l) :: ((kaM a z35 (newK true r5 acc15)) ++ ((kaM a z41 r66.2.1) ++ ((kaM a z53 r66.2.2) ++ ((kaM a z87 r80.2) ++ (kaM a z75 r80.2)))))) ?_
      refine bl_norm [some (.scr sc), some (.ref p), some (rp r2), some (rp r5), some (rp v8), some (rp acc15), none, some (rp acc22), some (rp r26), some (rp (nmApp (nmApp r5 (⟨": ", by decide +kernel⟩ : Nm)) (nmJnD acc15))), some (rp false), some (.ref z75.x), some (rp (⟨" (any number)", by decide +kernel⟩ : Nm)), some (rp r80.1), some (rp (T4.mk r5 (Tu.mk acc15) r80.1 (nmApp (nmApp (nmApp r5 (⟨": ", by decide +kernel⟩ : Nm)) (nmJnD acc15)) (⟨" (any number)", by decide +kernel⟩ : Nm)))), some (.lst [.ref z75.x, .ref z87.x]), some (rp (1 : Int))] ((p, .lst l) :: ((kaM a z35 (newK true r5 acc15)) ++ ((kaM a z41 r66.2.1) ++ ((kaM a z53 r66.2.2) ++ ((kaM a z87 r80.2) ++ (kaM a z75 r80.2)))))) ?_
      refine ifb ?_
      refine et_not ?_
      refine et_val ?_
      refine ev_permQ ?_
      refine cF sgU_mono (ok_law_apart T) (hr.mono (by decide)) T.mg_law_apart T.F_law_apart.kp T.b_law_apart pass_nx ?_
      refine ea_c ?_
      refine ixF ?_
      refine nm 15 ?_
      refine nm 16 ?_
      refine ix_f (l := [.ref z75.x, .ref z87.x]) (.ref z87.x) ?_
      refine ea_c ?_
      refine ixF ?_
      refine nm 15 ?_
      refine ev_bin ?_
      refine ev_int ?_
      refine nm 16 ?_
      refine og_subI ?_
      refine ix_f (l := [.ref z75.x, .ref z87.x]) (.ref z75.x) ?_
      refine ea_c ?_
      refine nm 10 ?_
      refine ea_c ?_
      refine nm 14 ?_
      refine ea_c ?_
      refine nm 8 ?_
      refine ea_nil ?_
      refine ask_u (r80.2, r80.2, false, (T4.mk r5 (Tu.mk acc15) r80.1 (nmApp (nmApp (nmApp r5 (⟨": ", by decide +kernel⟩ : Nm)) (nmJnD acc15)) (⟨" (any number)", by decide +kernel⟩ : Nm))), r26) (z87, z75) (.r ((Split.skip ((Split.skip ((Split.right (kaM a z53 r66.2.2) ((kaM a z87 r80.2) ++ (kaM a z75 r80.2)))) (kaM a z41 r66.2.1))) (kaM a z35 (newK true r5 acc15))))) rfl ⟨k88, k83, rfl⟩ h (fun r106 d μ1 h hz => ?_) (fun c fs y107 μ1 h hp hz => h.elim)
      obtain ⟨rfl, k110, k111, rfl⟩ := hz
      refine ⟨((p, .lst l) :: ((kaM a z35 (newK true r5 acc15)) ++ ((kaM a z41 r66.2.1) ++ ((kaM a z53 r66.2.2) ++ ((kaM a z87 r106.2.1) ++ (kaM a z75 r106.2.2)))))), (Split.perm (.r ((Split.skip ((Split.skip ((Split.right (kaM a z53 r66.2.2) ((kaM a z87 r106.2.1) ++ (kaM a z75 r106.2.2)))) (kaM a z41 r66.2.1))) (kaM a z35 (newK true r5 acc15)))))).symm, ?_⟩
      refine xb ?_
      refine ⟨fun ht => ?_, fun ht => ?_⟩
      · replace h := h.1 ht
        refine bl_norm [some (.scr sc), some (.ref p), some (rp r2), some (rp r5), some (rp v8), some (rp acc15), none, some (rp acc22), some (rp r26), some (rp (nmApp (nmApp r5 (⟨": ", by decide +kernel⟩ : Nm)) (nmJnD acc15))), some (rp false), some (.ref z75.x), some (rp (⟨" (any number)", by decide +kernel⟩ : Nm)), some (rp r80.1), some (rp (T4.mk r5 (Tu.mk acc15) r80.1 (nmApp (nmApp (nmApp r5 (⟨": ", by decide +kernel⟩ : Nm)) (nmJnD acc15)) (⟨" (any number)", by decide +kernel⟩ : Nm)))), some (.lst [.ref z75.x, .ref z87.x]), some (rp (1 : Int))] ((p, .lst l) :: ((kaM a z35 (newK true r5 acc15)) ++ ((kaM a z41 r66.2.1) ++ ((kaM a z53 r66.2.2) ++ ((kaM a z87 r106.2.1) ++ (kaM a z75 r106.2.2)))))) ?_
        refine ret ?_
        refine ev_bl ?_
        refine law_end h q
      replace h := h.2 ht
      refine nil ?_
      refine nil ?_
      refine bl_id ?_
      refine ret ?_
      refine ev_bl ?_
      refine law_end h q
  · subst er
    have h := hB rfl
    refine bl_permR (Split.perm (.r ((Split.skip ((Split.left (kaM a z41 r46.2) (kaM a z53 r46.2))) (kaM a z35 (newK true r5 acc15)))))) ?_
    refine bl_permR (Split.perm ((Split.skip (.r ((Split.right (kaM a z35 (newK true r5 acc15)) (kaM a z53 r46.2)))) (kaM a z41 r46.2)))) ?_
    refine bl_permR (Split.perm ((Split.skip ((Split.skip (.r ((Split.all (kaM a z35 (newK true r5 acc15))))) (kaM a z41 r46.2))) (kaM a z53 r46.2)))) ?_
    refine bl_permR (Split.perm ((Split.skip ((Split.skip ((Split.right (kaM a z41 r46.2) [(p, .lst l)])) (kaM a z53 r46.2))) (kaM a z35 (newK true r5 acc15))))) ?_
    refine bl_norm _ ((p, .lst l) :: ((kaM a z35 (newK true r5 acc15)) ++ ((kaM a z53 r46.2) ++ (kaM a z41 r46.2)))) ?_
    refine bl_norm [some (.scr sc), some (.ref p), some (rp r2), some (rp r5), some (rp v8), some (rp acc15), none, some (rp acc22), some (rp r26), some (rp (nmApp (nmApp r5 (⟨": ", by decide +kernel⟩ : Nm)) (nmJnD acc15))), some (rp true), some (.ref z41.x), some (rp (⟨" (one)", by decide +kernel⟩ : Nm)), some (rp r46.1), some (rp (T4.mk r5 (Tu.mk acc15) r46.1 (nmApp (nmApp (nmApp r5 (⟨": ", by decide +kernel⟩ : Nm)) (nmJnD acc15)) (⟨" (one)", by decide +kernel⟩ : Nm)))), some (.lst [.ref z41.x, .ref z53.x]), some (rp (1 : Int))] ((p, .lst l) :: ((kaM a z35 (newK true r5 acc15)) ++ ((kaM a z53 r46.2) ++ (kaM a z41 r46.2)))) ?_
    refine ifb ?_
    refine et_not ?_
    refine et_val ?_
    refine ev_permQ ?_
    refine cF sgU_mono (ok_law_apart T) (hr.mono (by decide)) T.mg_law_apart T.F_law_apart.kp T.b_law_apart pass_nx ?_
    refine ea_c ?_
    refine ixF ?_
    refine nm 15 ?_
    refine nm 16 ?_
    refine ix_f (l := [.ref z41.x, .ref z53.x]) (.ref z53.x) ?_
    refine ea_c ?_
    refine ixF ?_
    refine nm 15 ?_
    refine ev_bin ?_
    refine ev_int ?_
    refine nm 16 ?_
    refine og_subI ?_
    refine ix_f (l := [.ref z41.x, .ref z53.x]) (.ref z41.x) ?_
    refine ea_c ?_
    refine nm 10 ?_
    refine ea_c ?_
    refine nm 14 ?_
    refine ea_c ?_
    refine nm 8 ?_
    refine ea_nil ?_
    refine ask_u (r46.2, r46.2, true, (T4.mk r5 (Tu.mk acc15) r46.1 (nmApp (nmApp (nmApp r5 (⟨": ", by decide +kernel⟩ : Nm)) (nmJnD acc15)) (⟨" (one)", by decide +kernel⟩ : Nm))), r26) (z53, z41) (.r ((Split.right (kaM a z35 (newK true r5 acc15)) ((kaM a z53 r46.2) ++ (kaM a z41 r46.2))))) rfl ⟨k54, k49, rfl⟩ h (fun r112 d μ1 h hz => ?_) (fun c fs y113 μ1 h hp hz => h.elim)
    obtain ⟨rfl, k116, k117, rfl⟩ := hz
    refine ⟨((p, .lst l) :: ((kaM a z35 (newK true r5 acc15)) ++ ((kaM a z53 r112.2.1) ++ (kaM a z41 r112.2.2)))), (Split.perm (.r ((Split.right (kaM a z35 (newK true r5 acc15)) ((kaM a z53 r112.2.1) ++ (kaM a z41 r112.2.2)))))).symm, ?_⟩
    refine xb ?_
    refine ⟨fun ht => ?_, fun ht => ?_⟩
    · replace h := h.1 ht
      refine bl_norm [some (.scr sc), some (.ref p), some (rp r2), some (rp r5), some (rp v8), some (rp acc15), none, some (rp acc22), some (rp r26), some (rp (nmApp (nmApp r5 (⟨": ", by decide +kernel⟩ : Nm)) (nmJnD acc15))), some (rp true), some (.ref z41.x), some (rp (⟨" (one)", by decide +kernel⟩ : Nm)), some (rp r46.1), some (rp (T4.mk r5 (Tu.mk acc15) r46.1 (nmApp (nmApp (nmApp r5 (⟨": ", by decide +kernel⟩ : Nm)) (nmJnD acc15)) (⟨" (one)", by decide +kernel⟩ : Nm)))), some (.lst [.ref z41.x, .ref z53.x]), some (rp (1 : Int))] ((p, .lst l) :: ((kaM a z35 (newK true r5 acc15)) ++ ((kaM a z53 r112.2.1) ++ (kaM a z41 r112.2.2)))) ?_
      refine ret ?_
      refine ev_bl ?_
      refine law_end h q
    replace h := h.2 ht
    refine nil ?_
    refine nil ?_
    refine forU_c ?_
    refine tn 10 ?nd118 ?_
    case nd118 => exact nd
    refine bl_norm [some (.scr sc), some (.ref p), some (rp r2), some (rp r5), some (rp v8), some (rp acc15), none, some (rp acc22), some (rp r26), some (rp (nmApp (nmApp r5 (⟨": ", by decide +kernel⟩ : Nm)) (nmJnD acc15))), some (rp false), some (.ref z41.x), some (rp (⟨" (one)", by decide +kernel⟩ : Nm)), some (rp r46.1), some (rp (T4.mk r5 (Tu.mk acc15) r46.1 (nmApp (nmApp (nmApp r5 (⟨": ", by decide +kernel⟩ : Nm)) (nmJnD acc15)) (⟨" (one)", by decide +kernel⟩ : Nm)))), some (.lst [.ref z41.x, .ref z53.x]), some (rp (1 : Int))] ((p, .lst l) :: ((kaM a z35 (newK true r5 acc15)) ++ ((kaM a z53 r112.2.1) ++ (kaM a z41 r112.2.2)))) ?_
    refine asgF 11 ?nd119 ?_
    case nd119 => exact nd
    refine ev_make (CX := CX0) Part_mono T.mk_Many (ok_Part_init T) (hr.mono (by decide)) (by rfl) T.mgC_Many T.b_Part_init .nil (fun _ => .nil) pass0 ?_
    refine ea_c ?_
    refine nm 3 ?_
    refine ea_c ?_
    refine nm 5 ?_
    obtain ⟨g120, h⟩ := h
    refine ea_nil (new_ka (a := a) (b := true) (n := r5) (st := acc15) g120.1 g120.2 (fun z121 hm123 k122 => ?_))
    refine bl_permR (Split.perm ((Split.skip (.r ((Split.skip ((Split.right (kaM a z53 r112.2.1) (kaM a z41 r112.2.2))) (kaM a z35 (newK true r5 acc15))))) (kaM a z121 (newK true r5 acc15))))) ?_
    refine bl_permR (Split.perm ((Split.skip ((Split.skip (.r ((Split.right (kaM a z35 (newK true r5 acc15)) (kaM a z53 r112.2.1)))) (kaM a z121 (newK true r5 acc15)))) (kaM a z41 r112.2.2)))) ?_
    refine bl_permR (Split.perm ((Split.skip ((Split.skip ((Split.skip (.r ((Split.all (kaM a z35 (newK true r5 acc15))))) (kaM a z121 (newK true r5 acc15)))) (kaM a z41 r112.2.2))) (kaM a z53 r112.2.1)))) ?_
    refine bl_permR (Split.perm ((Split.skip ((Split.skip ((Split.skip ((Split.right (kaM a z121 (newK true r5 acc15)) [(p, .lst l)])) (kaM a z41 r112.2.2))) (kaM a z53 r112.2.1))) (kaM a z35 (newK true r5 acc15))))) ?_
    refine bl_norm _ ((p, .lst l) :: ((kaM a z35 (newK true r5 acc15)) ++ ((kaM a z53 r112.2.1) ++ ((kaM a z41 r112.2.2) ++ (kaM a z121 (newK true r5 acc15)))))) ?_
    refine bl_norm [some (.scr sc), some (.ref p), some (rp r2), some (rp r5), some (rp v8), some (rp acc15), none, some (rp acc22), some (rp r26), some (rp (nmApp (nmApp r5 (⟨": ", by decide +kernel⟩ : Nm)) (nmJnD acc15))), some (rp false), some (.ref z121.x), some (rp (⟨" (one)", by decide +kernel⟩ : Nm)), some (rp r46.1), some (rp (T4.mk r5 (Tu.mk acc15) r46.1 (nmApp (nmApp (nmApp r5 (⟨": ", by decide +kernel⟩ : Nm)) (nmJnD acc15)) (⟨" (one)", by decide +kernel⟩ : Nm)))), some (.lst [.ref z41.x, .ref z53.x]), some (rp (1 : Int))] ((p, .lst l) :: ((kaM a z35 (newK true r5 acc15)) ++ ((kaM a z53 r112.2.1) ++ ((kaM a z41 r112.2.2) ++ (kaM a z121 (newK true r5 acc15)))))) ?_
    refine asgF 12 ?nd124 ?_
    case nd124 => exact nd
    refine ev_str ?_
    refine bl_norm [some (.scr sc), some (.ref p), some (rp r2), some (rp r5), some (rp v8), some (rp acc15), none, some (rp acc22), some (rp r26), some (rp (nmApp (nmApp r5 (⟨": ", by decide +kernel⟩ : Nm)) (nmJnD acc15))), some (rp false), some (.ref z121.x), some (rp (⟨" (any number)", by decide +kernel⟩ : Nm)), some (rp r46.1), some (rp (T4.mk r5 (Tu.mk acc15) r46.1 (nmApp (nmApp (nmApp r5 (⟨": ", by decide +kernel⟩ : Nm)) (nmJnD acc15)) (⟨" (one)", by decide +kernel⟩ : Nm)))), some (.lst [.ref z41.x, .ref z53.x]), some (rp (1 : Int))] ((p, .lst l) :: ((kaM a z35 (newK true r5 acc15)) ++ ((kaM a z53 r112.2.1) ++ ((kaM a z41 r112.2.2) ++ (kaM a z121 (newK true r5 acc15)))))) ?_
    refine ifb ?_
    refine et_val ?_
    refine nm 10 ?_
    refine xb ?_
    refine ⟨(fun h => nomatch h), fun ht => ?_⟩
    refine nil ?_
    refine asgF 13 ?nd125 ?_
    case nd125 => exact nd
    refine ev_permQ ?_
    refine cF sgU_mono (ok_law_filled T) (hr.mono (by decide)) T.mg_law_filled T.F_law_filled.kp T.b_law_filled pass_nx ?_
    refine ea_c ?_
    refine nm 1 ?_
    refine ea_c ?_
    refine nm 11 ?_
    refine ea_c ?_
    refine nm 5 ?_
    refine ea_c ?_
    refine nm 7 ?_
    refine ea_nil ?_
    refine ask_u ((newK true r5 acc15), acc15, acc22) (p, z121) (.l ((Split.skip ((Split.skip ((Split.right (kaM a z41 r112.2.2) (kaM a z121 (newK true r5 acc15)))) (kaM a z53 r112.2.1))) (kaM a z35 (newK true r5 acc15))))) rfl ⟨l, hl, k122, rfl⟩ h (fun r126 d μ1 h hz => ?_) (fun c fs y127 μ1 h hp hz => h.elim)
    obtain ⟨l, hl, rfl, k129, rfl⟩ := hz
    refine ⟨((p, .lst l) :: ((kaM a z35 (newK true r5 acc15)) ++ ((kaM a z53 r112.2.1) ++ ((kaM a z41 r112.2.2) ++ (kaM a z121 r126.2))))), (Split.perm (.l ((Split.skip ((Split.skip ((Split.right (kaM a z41 r112.2.2) (kaM a z121 r126.2))) (kaM a z53 r112.2.1))) (kaM a z35 (newK true r5 acc15)))))).symm, ?_⟩
    refine bl_norm [some (.scr sc), some (.ref p), some (rp r2), some (rp r5), some (rp v8), some (rp acc15), none, some (rp acc22), some (rp r26), some (rp (nmApp (nmApp r5 (⟨": ", by decide +kernel⟩ : Nm)) (nmJnD acc15))), some (rp false), some (.ref z121.x), some (rp (⟨" (any number)", by decide +kernel⟩ : Nm)), some (rp r126.1), some (rp (T4.mk r5 (Tu.mk acc15) r46.1 (nmApp (nmApp (nmApp r5 (⟨": ", by decide +kernel⟩ : Nm)) (nmJnD acc15)) (⟨" (one)", by decide +kernel⟩ : Nm)))), some (.lst [.ref z41.x, .ref z53.x]), some (rp (1 : Int))] ((p, .lst l) :: ((kaM a z35 (newK true r5 acc15)) ++ ((kaM a z53 r112.2.1) ++ ((kaM a z41 r112.2.2) ++ (kaM a z121 r126.2))))) ?_
    refine asgF 14 ?nd130 ?_
    case nd130 => exact nd
    refine ev_tup ?_
    refine ea_c ?_
    refine nm 3 ?_
    refine ea_c ?_
    refine cT T.z_tuple b_tuple ?_
    refine ea_c ?_
    refine nm 5 ?_
    refine ea_nil ?_
    refine c_tuple acc15 (.l (.val _)) ?_
    refine ea_c ?_
    refine nm 13 ?_
    refine ea_c ?_
    refine ev_bin ?_
    refine nm 9 ?_
    refine nm 12 ?_
    obtain ⟨g131, h⟩ := h
    refine op_addNm (nmApp (nmApp r5 (⟨": ", by decide +kernel⟩ : Nm)) (nmJnD acc15)) (⟨" (any number)", by decide +kernel⟩ : Nm) g131 ?_
    refine ea_few ?_
    refine asgF 15 ?nd132 ?_
    case nd132 => exact nd
    refine ev_lst ?_
    refine ea_c ?_
    refine nm 11 ?_
    refine ea_c ?_
    refine ev_twinK (P := P) (w := w) (base := base) T ⟨rfl, rfl, rfl, rfl, rfl⟩ rfl (hr.mono (by decide)) (.r ((Split.skip ((Split.skip ((Split.right (kaM a z41 r112.2.2) (kaM a z121 r126.2))) (kaM a z53 r112.2.1))) (kaM a z35 (newK true r5 acc15))))) k129 (fun z => nm 11 z) (fun z133 _ k134 => ?_)
    refine ea_few ?_
    refine bl_permR (Split.perm ((Split.skip ((Split.left (kaM a z121 r126.2) ((p, .lst l) :: ((kaM a z35 (newK true r5 acc15)) ++ ((kaM a z53 r112.2.1) ++ (kaM a z41 r112.2.2)))))) (kaM a z133 r126.2)))) ?_
    refine bl_permR (Split.perm ((Split.skip ((Split.skip (.r ((Split.skip ((Split.right (kaM a z53 r112.2.1) (kaM a z41 r112.2.2))) (kaM a z35 (newK true r5 acc15))))) (kaM a z133 r126.2))) (kaM a z121 r126.2)))) ?_
    refine bl_permR (Split.perm ((Split.skip ((Split.skip ((Split.skip (.r ((Split.right (kaM a z35 (newK true r5 acc15)) (kaM a z53 r112.2.1)))) (kaM a z133 r126.2))) (kaM a z121 r126.2))) (kaM a z41 r112.2.2)))) ?_
    refine bl_permR (Split.perm ((Split.skip ((Split.skip ((Split.skip ((Split.skip (.r ((Split.all (kaM a z35 (newK true r5 acc15))))) (kaM a z133 r126.2))) (kaM a z121 r126.2))) (kaM a z41 r112.2.2))) (kaM a z53 r112.2.1)))) ?_
    refine bl_permR (Split.perm ((Split.skip ((Split.skip ((Split.skip ((Split.skip ((Split.right (kaM a z133 r126.2) [(p, .lst l)])) (kaM a z121 r126.2))) (kaM a z41 r112.2.2))) (kaM a z53 r112.2.1))) (kaM a z35 (newK true r5 acc15))))) ?_
    refine bl_norm _ ((p, .lst l) :: ((kaM a z35 (newK true r5 acc15)) ++ ((kaM a z53 r112.2.1) ++ ((kaM a z41 r112.2.2) ++ ((kaM a z121 r126.2) ++ (kaM a z133 r126.2)))))) ?_
    refine bl_norm [some (.scr sc), some (.ref p), some (rp r2), some (rp r5), some (rp v8), some (rp acc15), none, some (rp acc22), some (rp r26), some (rp (nmApp (nmApp r5 (⟨": ", by decide +kernel⟩ : Nm)) (nmJnD acc15))), some (rp false), some (.ref z121.x), some (rp (⟨" (any number)", by decide +kernel⟩ : Nm)), some (rp r126.1), some (rp (T4.mk r5 (Tu.mk acc15) r126.1 (nmApp (nmApp (nmApp r5 (⟨": ", by decide +kernel⟩ : Nm)) (nmJnD acc15)) (⟨" (any number)", by decide +kernel⟩ : Nm)))), some (.lst [.ref z121.x, .ref z133.x]), some (rp (1 : Int))] ((p, .lst l) :: ((kaM a z35 (newK true r5 acc15)) ++ ((kaM a z53 r112.2.1) ++ ((kaM a z41 r112.2.2) ++ ((kaM a z121 r126.2) ++ (kaM a z133 r126.2)))))) ?_
    obtain ⟨U135, h, hU⟩ := h
    refine ifb ?_
    refine et_cut U135 (fun μ' => ∃ l, PoolOk l ∧ μ' = ((p, .lst l) :: ((kaM a z35 (newK true r5 acc15)) ++ ((kaM a z53 r112.2.1) ++ ((kaM a z41 r112.2.2) ++ ((kaM a z121 r126.2) ++ (kaM a z133 r126.2))))))) ?_ (fun b μ' hb r => ?_)
    · refine et_w ?_
      refine ew_or ?_
      refine et_cmp ?_
      refine ev_permQ ?_
      refine cF sgU_mono (ok_law_told T) (hr.mono (by decide)) T.mg_law_told T.F_law_told.kp T.b_law_told pass_nx ?_
      refine ea_c ?_
      refine ixF ?_
      refine nm 15 ?_
      refine ev_int ?_
      refine ix_f (l := [.ref z121.x, .ref z133.x]) (.ref z121.x) ?_
      refine ea_c ?_
      refine nm 10 ?_
      refine ea_nil ?_
      refine ask_u (r126.2, false) z121 (.r ((Split.skip ((Split.skip ((Split.skip ((Split.left (kaM a z121 r126.2) (kaM a z133 r126.2))) (kaM a z41 r112.2.2))) (kaM a z53 r112.2.1))) (kaM a z35 (newK true r5 acc15))))) rfl ⟨k129, rfl⟩ h (fun r136 d μ1 h hz => ?_) (fun c fs y137 μ1 h hp hz => h.elim)
      obtain ⟨rfl, k139, rfl⟩ := hz
      refine ⟨((p, .lst l) :: ((kaM a z35 (newK true r5 acc15)) ++ ((kaM a z53 r112.2.1) ++ ((kaM a z41 r112.2.2) ++ ((kaM a z121 r126.2) ++ (kaM a z133 r126.2)))))), (Split.perm (.r ((Split.skip ((Split.skip ((Split.skip ((Split.left (kaM a z121 r126.2) (kaM a z133 r126.2))) (kaM a z41 r112.2.2))) (kaM a z53 r112.2.1))) (kaM a z35 (newK true r5 acc15)))))).symm, ?_⟩
      refine nm 14 ?_
      refine op_ne r136 (T4.mk r5 (Tu.mk acc15) r126.1 (nmApp (nmApp (nmApp r5 (⟨": ", by decide +kernel⟩ : Nm)) (nmJnD acc15)) (⟨" (any number)", by decide +kernel⟩ : Nm))) hu .val .val ?_
      refine xb ?_
      refine ⟨fun ht => ?_, fun ht => ?_⟩
      · replace h := h.1 ht
        refine ew_or1 ?_
        refine et_cmp ?_
        refine ev_permQ ?_
        refine cF sgU_mono (ok_law_told T) (hr.mono (by decide)) T.mg_law_told T.F_law_told.kp T.b_law_told pass_nx ?_
        refine ea_c ?_
        refine ixF ?_
        refine nm 15 ?_
        refine ev_int ?_
        refine ix_f (l := [.ref z121.x, .ref z133.x]) (.ref z133.x) ?_
        refine ea_c ?_
        refine nm 10 ?_
        refine ea_nil ?_
        refine ask_u (r126.2, false) z133 (.r ((Split.skip ((Split.skip ((Split.skip ((Split.right (kaM a z121 r126.2) (kaM a z133 r126.2))) (kaM a z41 r112.2.2))) (kaM a z53 r112.2.1))) (kaM a z35 (newK true r5 acc15))))) rfl ⟨k134, rfl⟩ h (fun r140 d μ1 h hz => ?_) (fun c fs y141 μ1 h hp hz => h.elim)
        obtain ⟨rfl, k143, rfl⟩ := hz
        refine ⟨((p, .lst l) :: ((kaM a z35 (newK true r5 acc15)) ++ ((kaM a z53 r112.2.1) ++ ((kaM a z41 r112.2.2) ++ ((kaM a z121 r126.2) ++ (kaM a z133 r126.2)))))), (Split.perm (.r ((Split.skip ((Split.skip ((Split.skip ((Split.right (kaM a z121 r126.2) (kaM a z133 r126.2))) (kaM a z41 r112.2.2))) (kaM a z53 r112.2.1))) (kaM a z35 (newK true r5 acc15)))))).symm, ?_⟩
        refine nm 14 ?_
        refine op_ne r140 (T4.mk r5 (Tu.mk acc15) r126.1 (nmApp (nmApp (nmApp r5 (⟨": ", by decide +kernel⟩ : Nm)) (nmJnD acc15)) (⟨" (any number)", by decide +kernel⟩ : Nm))) hu .val .val ?_
        refine xb ?_
        refine ⟨h, l, hl, rfl⟩
      · replace h := h.2 ht
        refine ⟨h, l, hl, rfl⟩
    obtain ⟨l, hl, rfl⟩ := r
    replace h := hU b hb
    refine ⟨fun ht => ?_, fun ht => ?_⟩
    · replace h := h.1 ht
      refine ret ?_
      refine ev_bl ?_
      refine law_end h q
    replace h := h.2 ht
    refine nil ?_
    refine asgF 16 ?nd144 ?_
    case nd144 => exact nd
    refine cF take_mono (ok_take T) (hr.mono (by decide)) T.mg_law_take T.F_law_take.kp T.b_law_take pass0 ?_
    refine ea_c ?_
    refine nm 1 ?_
    refine ea_c ?_
    refine ev_int ?_
    refine ea_nil ?_
    refine ask_t hl h fun r145 l hl h => ?_
    obtain ⟨hA, hB, hC⟩ := h
    rcases hC with er | er
    · subst er
      have h := hA rfl
      refine bl_norm [some (.scr sc), some (.ref p), some (rp r2), some (rp r5), some (rp v8), some (rp acc15), none, some (rp acc22), some (rp r26), some (rp (nmApp (nmApp r5 (⟨": ", by decide +kernel⟩ : Nm)) (nmJnD acc15))), some (rp false), some (.ref z121.x), some (rp (⟨" (any number)", by decide +kernel⟩ : Nm)), some (rp r126.1), some (rp (T4.mk r5 (Tu.mk acc15) r126.1 (nmApp (nmApp (nmApp r5 (⟨": ", by decide +kernel⟩ : Nm)) (nmJnD acc15)) (⟨" (any number)", by decide +kernel⟩ : Nm)))), some (.lst [.ref z121.x, .ref z133.x]), some (rp (0 : Int))] ((p, .lst l) :: ((kaM a z35 (newK true r5 acc15)) ++ ((kaM a z53 r112.2.1) ++ ((kaM a z41 r112.2.2) ++ ((kaM a z121 r126.2) ++ (kaM a z133 r126.2)))))) ?_
      refine ifb ?_
      refine et_not ?_
      refine et_val ?_
      refine ev_permQ ?_
      refine cF sgU_mono (ok_law_apart T) (hr.mono (by decide)) T.mg_law_apart T.F_law_apart.kp T.b_law_apart pass_nx ?_
      refine ea_c ?_
      refine ixF ?_
      refine nm 15 ?_
      refine nm 16 ?_
      refine ix_f (l := [.ref z121.x, .ref z133.x]) (.ref z121.x) ?_
      refine ea_c ?_
      refine ixF ?_
      refine nm 15 ?_
      refine ev_bin ?_
      refine ev_int ?_
      refine nm 16 ?_
      refine og_subI ?_
      refine ix_f (l := [.ref z121.x, .ref z133.x]) (.ref z133.x) ?_
      refine ea_c ?_
      refine nm 10 ?_
      refine ea_c ?_
      refine nm 14 ?_
      refine ea_c ?_
      refine nm 8 ?_
      refine ea_nil ?_
      refine ask_u (r126.2, r126.2, false, (T4.mk r5 (Tu.mk acc15) r126.1 (nmApp (nmApp (nmApp r5 (⟨": ", by decide +kernel⟩ : Nm)) (nmJnD acc15)) (⟨" (any number)", by decide +kernel⟩ : Nm))), r26) (z121, z133) (.r ((Split.skip ((Split.skip ((Split.right (kaM a z41 r112.2.2) ((kaM a z121 r126.2) ++ (kaM a z133 r126.2)))) (kaM a z53 r112.2.1))) (kaM a z35 (newK true r5 acc15))))) rfl ⟨k129, k134, rfl⟩ h (fun r146 d μ1 h hz => ?_) (fun c fs y147 μ1 h hp hz => h.elim)
      obtain ⟨rfl, k150, k151, rfl⟩ := hz
      refine ⟨((p, .lst l) :: ((kaM a z35 (newK true r5 acc15)) ++ ((kaM a z53 r112.2.1) ++ ((kaM a z41 r112.2.2) ++ ((kaM a z121 r146.2.1) ++ (kaM a z133 r146.2.2)))))), (Split.perm (.r ((Split.skip ((Split.skip ((Split.right (kaM a z41 r112.2.2) ((kaM a z121 r146.2.1) ++ (kaM a z133 r146.2.2)))) (kaM a z53 r112.2.1))) (kaM a z35 (newK true r5 acc15)))))).symm, ?_⟩
      refine xb ?_
      refine ⟨fun ht => ?_, fun ht => ?_⟩
      · replace h := h.1 ht
        refine bl_norm [some (.scr sc), some (.ref p), some (rp r2), some (rp r5), some (rp v8), some (rp acc15), none, some (rp acc22), some (rp r26), some (rp (nmApp (nmApp r5 (⟨": ", by decide +kernel⟩ : Nm)) (nmJnD acc15))), some (rp false), some (.ref z121.x), some (rp (⟨" (any number)", by decide +kernel⟩ : Nm)), some (rp r126.1), some (rp (T4.mk r5 (Tu.mk acc15) r126.1 (nmApp (nmApp (nmApp r5 (⟨": ", by decide +kernel⟩ : Nm)) (nmJnD acc15)) (⟨" (any number)", by decide +kernel⟩ : Nm)))), some (.lst [.ref z121.x, .ref z133.x]), some (rp (0 : Int))] ((p, .lst l) :: ((kaM a z35 (newK true r5 acc15)) ++ ((kaM a z53 r112.2.1) ++ ((kaM a z41 r112.2.2) ++ ((kaM a z121 r146.2.1) ++ (kaM a z133 r146.2.2)))))) ?_
        refine ret ?_
        refine ev_bl ?_
        refine law_end h q
      replace h := h.2 ht
      refine nil ?_
      refine nil ?_
      refine bl_id ?_
      refine ret ?_
      refine ev_bl ?_
      refine law_end h q
    · subst er
      have h := hB rfl
      refine bl_permR (Split.perm (.r ((Split.skip ((Split.skip ((Split.skip ((Split.left (kaM a z121 r126.2) (kaM a z133 r126.2))) (kaM a z41 r112.2.2))) (kaM a z53 r112.2.1))) (kaM a z35 (newK true r5 acc15)))))) ?_
      refine bl_permR (Split.perm ((Split.skip (.r ((Split.skip ((Split.skip ((Split.right (kaM a z41 r112.2.2) (kaM a z133 r126.2))) (kaM a z53 r112.2.1))) (kaM a z35 (newK true r5 acc15))))) (kaM a z121 r126.2)))) ?_
      refine bl_permR (Split.perm ((Split.skip ((Split.skip (.r ((Split.skip ((Split.right (kaM a z53 r112.2.1) (kaM a z41 r112.2.2))) (kaM a z35 (newK true r5 acc15))))) (kaM a z121 r126.2))) (kaM a z133 r126.2)))) ?_
      refine bl_permR (Split.perm ((Split.skip ((Split.skip ((Split.skip (.r ((Split.right (kaM a z35 (newK true r5 acc15)) (kaM a z53 r112.2.1)))) (kaM a z121 r126.2))) (kaM a z133 r126.2))) (kaM a z41 r112.2.2)))) ?_
      refine bl_permR (Split.perm ((Split.skip ((Split.skip ((Split.skip ((Split.skip (.r ((Split.all (kaM a z35 (newK true r5 acc15))))) (kaM a z121 r126.2))) (kaM a z133 r126.2))) (kaM a z41 r112.2.2))) (kaM a z53 r112.2.1)))) ?_
      refine bl_permR (Split.perm ((Split.skip ((Split.skip ((Split.skip ((Split.skip ((Split.right (kaM a z121 r126.2) [(p, .lst l)])) (kaM a z133 r126.2))) (kaM a z41 r112.2.2))) (kaM a z53 r112.2.1))) (kaM a z35 (newK true r5 acc15))))) ?_
      refine bl_norm _ ((p, .lst l) :: ((kaM a z35 (newK true r5 acc15)) ++ ((kaM a z53 r112.2.1) ++ ((kaM a z41 r112.2.2) ++ ((kaM a z133 r126.2) ++ (kaM a z121 r126.2)))))) ?_
      refine bl_norm [some (.scr sc), some (.ref p), some (rp r2), some (rp r5), some (rp v8), some (rp acc15), none, some (rp acc22), some (rp r26), some (rp (nmApp (nmApp r5 (⟨": ", by decide +kernel⟩ : Nm)) (nmJnD acc15))), some (rp false), some (.ref z121.x), some (rp (⟨" (any number)", by decide +kernel⟩ : Nm)), some (rp r126.1), some (rp (T4.mk r5 (Tu.mk acc15) r126.1 (nmApp (nmApp (nmApp r5 (⟨": ", by decide +kernel⟩ : Nm)) (nmJnD acc15)) (⟨" (any number)", by decide +kernel⟩ : Nm)))), some (.lst [.ref z121.x, .ref z133.x]), some (rp (1 : Int))] ((p, .lst l) :: ((kaM a z35 (newK true r5 acc15)) ++ ((kaM a z53 r112.2.1) ++ ((kaM a z41 r112.2.2) ++ ((kaM a z133 r126.2) ++ (kaM a z121 r126.2)))))) ?_
      refine ifb ?_
      refine et_not ?_
      refine et_val ?_
      refine ev_permQ ?_
      refine cF sgU_mono (ok_law_apart T) (hr.mono (by decide)) T.mg_law_apart T.F_law_apart.kp T.b_law_apart pass_nx ?_
      refine ea_c ?_
      refine ixF ?_
      refine nm 15 ?_
      refine nm 16 ?_
      refine ix_f (l := [.ref z121.x, .ref z133.x]) (.ref z133.x) ?_
      refine ea_c ?_
      refine ixF ?_
      refine nm 15 ?_
      refine ev_bin ?_
      refine ev_int ?_
      refine nm 16 ?_
      refine og_subI ?_
      refine ix_f (l := [.ref z121.x, .ref z133.x]) (.ref z121.x) ?_
      refine ea_c ?_
      refine nm 10 ?_
      refine ea_c ?_
      refine nm 14 ?_
      refine ea_c ?_
      refine nm 8 ?_
      refine ea_nil ?_
      refine ask_u (r126.2, r126.2, false, (T4.mk r5 (Tu.mk acc15) r126.1 (nmApp (nmApp (nmApp r5 (⟨": ", by decide +kernel⟩ : Nm)) (nmJnD acc15)) (⟨" (any number)", by decide +kernel⟩ : Nm))), r26) (z133, z121) (.r ((Split.skip ((Split.skip ((Split.right (kaM a z41 r112.2.2) ((kaM a z133 r126.2) ++ (kaM a z121 r126.2)))) (kaM a z53 r112.2.1))) (kaM a z35 (newK true r5 acc15))))) rfl ⟨k134, k129, rfl⟩ h (fun r152 d μ1 h hz => ?_) (fun c fs y153 μ1 h hp hz => h.elim)
      obtain ⟨rfl, k156, k157, rfl⟩ := hz
      refine ⟨((p, .lst l) :: ((kaM a z35 (newK true r5 acc15)) ++ ((kaM a z53 r112.2.1) ++ ((kaM a z41 r112.2.2) ++ ((kaM a z133 r152.2.1) ++ (kaM a z121 r152.2.2)))))), (Split.perm (.r ((Split.skip ((Split.skip ((Split.right (kaM a z41 r112.2.2) ((kaM a z133 r152.2.1) ++ (kaM a z121 r152.2.2)))) (kaM a z53 r112.2.1))) (kaM a z35 (newK true r5 acc15)))))).symm, ?_⟩
      refine xb ?_
      refine ⟨fun ht => ?_, fun ht => ?_⟩
      · replace h := h.1 ht
        refine bl_norm [some (.scr sc), some (.ref p), some (rp r2), some (rp r5), some (rp v8), some (rp acc15), none, some (rp acc22), some (rp r26), some (rp (nmApp (nmApp r5 (⟨": ", by decide +kernel⟩ : Nm)) (nmJnD acc15))), some (rp false), some (.ref z121.x), some (rp (⟨" (any number)", by decide +kernel⟩ : Nm)), some (rp r126.1), some (rp (T4.mk r5 (Tu.mk acc15) r126.1 (nmApp (nmApp (nmApp r5 (⟨": ", by decide +kernel⟩ : Nm)) (nmJnD acc15)) (⟨" (any number)", by decide +kernel⟩ : Nm)))), some (.lst [.ref z121.x, .ref z133.x]), some (rp (1 : Int))] ((p, .lst l) :: ((kaM a z35 (newK true r5 acc15)) ++ ((kaM a z53 r112.2.1) ++ ((kaM a z41 r112.2.2) ++ ((kaM a z133 r152.2.1) ++ (kaM a z121 r152.2.2)))))) ?_
        refine ret ?_
        refine ev_bl ?_
        refine law_end h q
      replace h := h.2 ht
      refine nil ?_
      refine nil ?_
      refine bl_id ?_
      refine ret ?_
      refine ev_bl ?_
      refine law_end h q
theorem ok_law_of (T : Tx P K mg a) (hm : m_law (fun b => b = true)) : FnOk P w K mg base CX0 12 a.f_law a.fd_law ["_law_script"] (spLaw K) :=
  (ok_lawG T hm).imp fun vs H Q E ⟨p, ns, hv, hs, hl, q⟩ => by
    subst hv
    have e : Ex H (vis (fun _ => none) H (adr [])) := fun b o h => vis_mk h rfl (fun h => nomatch h)
    refine ⟨fun _ => none, fun _ => none, [.scr ns], [], ⟨(fun _ _ h => nomatch h), (fun _ h => nomatch h), (fun _ _ h => nomatch h), List.nodup_nil, (fun _ h => nomatch h), (fun _ _ h => nomatch h)⟩, .cons (.scr (e.l hs)) .nil, ns, rfl, hl, rfl, fun μ' v H' r rv => ?_⟩
    cases rv
    exact q H'
theorem draw_in {l : List Int} {R : Int → Prop} {n : Int} (hn : n = (l.length : Int)) (hl : 0 < l.length) (hl2 : l.length < 1000) (h : ∀ v ∈ l, R v) : drw n (fun r => ∃ v, atI l r = some v ∧ R v) := by
  subst hn
  refine ⟨⟨by omega, Int.lt_of_lt_of_le (show (l.length : Int) < 1000 by omega) (by decide +kernel)⟩, fun r h1 h2 => ?_⟩
  obtain ⟨v, hv, e⟩ := atI_ge h1 h2
  exact ⟨v, e, h v hv⟩
theorem drw_few {R : Int → Prop} {n : Int} (h0 : 0 < n) (h1 : n < 1000) (h : ∀ r, 0 ≤ r → r < n → R r) : drw n R := ⟨⟨h0, Int.lt_of_lt_of_le h1 (by decide +kernel)⟩, h⟩
theorem nm_nd {l : List Nm} (h : ∀ (i : Nat) (z : Nm), l[i]? = some z → NameOk i z.1) : l.Nodup := by
  refine List.pairwise_iff_getElem.mpr fun i j hi hj hij e => ?_
  have h1 := h i _ (List.getElem?_eq_getElem hi)
  have h2 := h j _ (List.getElem?_eq_getElem hj)
  rw [e] at h1
  have := h1.inj h2
  omega
theorem law_some {rows : List Nm} {most : Int} (hr : 0 < rows.length) (hr2 : rows.length ≤ 60) (hm : 0 ≤ most) (hm2 : most ≤ 100) {k : List Nm → Prop} (hk : ∀ l : List Nm, l.Nodup → (l.length : Int) ≤ most → (∀ x ∈ l, x ∈ rows) → k l) : m_law_some rows most k := by
  refine drw_few (by omega) (by omega) fun r h1 h2 => ⟨by omega, ?_⟩
  refine ⟨fun i s => s.Nodup ∧ s.length ≤ i ∧ ∀ x ∈ s, x ∈ rows, ⟨List.nodup_nil, Nat.le_refl _, fun x h => by cases h⟩, ?_, ?_⟩
  · rintro i x s hx ⟨q1, q2, q3⟩
    have hi := at_lt hx
    rw [List.length_range] at hi
    refine drw_few (by omega) (by omega) fun r' h3 h4 => ?_
    obtain ⟨v, hv, e⟩ := atI_ge (l := rows) h3 h4
    refine ⟨v, e, fun s' => s'.Nodup ∧ s'.length ≤ i + 1 ∧ ∀ x ∈ s', x ∈ rows, ⟨fun c => ⟨by omega, ?_, ?_, ?_⟩, fun c => ⟨q1, by omega, q3⟩⟩, fun _ z => z⟩
    · refine List.nodup_append.mpr ⟨q1, by simp, fun a ha b hb => ?_⟩
      rw [List.mem_singleton.mp hb]
      exact fun z => by
        rw [z] at ha
        rw [inb_t.mpr ha] at c
        cases c
    · rw [List.length_append]; show _ + 1 ≤ _; omega
    · intro y hy
      rcases List.mem_append.mp hy with hy | hy
      · exact q3 y hy
      · rw [List.mem_singleton.mp hy]; exact hv
  · rintro s ⟨q1, q2, q3⟩
    rw [List.length_range] at q2
    exact hk s q1 (by omega) q3
theorem t_ne {α : Type} [DecidableEq α] (x : α) : (!(decide (x = x))) = false := by rw [decide_eq_true rfl]; rfl
theorem look_mapK {α : Type} {l : List (Nm × α)} (g : Nm → α → α) (b : Nm) : look (l.map fun p => (p.1, g p.1 p.2)) b = (look l b).map (g b) := by
  unfold look
  rw [List.find?_map]
  have e : ((fun p : Nm × α => decide (p.1 = b)) ∘ fun p : Nm × α => (p.1, g p.1 p.2)) = fun p => decide (p.1 = b) := rfl
  rw [e]
  cases e2 : l.find? fun p => decide (p.1 = b) with
  | none => rfl
  | some p =>
    have : p.1 = b := by simpa using List.find?_some e2
    show some (g p.1 p.2) = some (g b p.2)
    rw [this]
theorem leads_allowK {κ : KindV} (ok : KOk κ) {b c d : Nm} (hd : d ∈ κ.order) : leadsK (allowF κ b c) d = if d = b then (if c ∈ leadsK κ d then leadsK κ d else leadsK κ d ++ [c]) else leadsK κ d := by
  obtain ⟨l, hl, _⟩ := look_some (l := κ.leads.l) (k := d) (by rw [ok.le]; exact hd)
  unfold leadsK
  have e : (allowF κ b c).leads.l = κ.leads.l.map fun p => (p.1, (fun x (y : List Nm) => if x = b then (if c ∈ y then y else y ++ [c]) else y) p.1 p.2) := by
    show κ.leads.l.map _ = _
    refine List.map_congr_left fun p _ => ?_
    by_cases e : p.1 = b
    · rw [if_pos e]
      dsimp only
      rw [if_pos e]
    · rw [if_neg e]
      dsimp only
      rw [if_neg e]
  rw [e, look_mapK (fun x (y : List Nm) => if x = b then (if c ∈ y then y else y ++ [c]) else y) d, hl]
  rfl
theorem doors_setK {κ : KindV} (ok : KOk κ) {k d : Nm} {v : Prs} (hd : d ∈ κ.order) : doorsK (setF' κ k v) d = if d = k then v else doorsK κ d := by
  obtain ⟨l, hl, _⟩ := look_some (l := κ.doors.l) (k := d) (by rw [ok.dk]; exact hd)
  unfold doorsK
  have e : (setF' κ k v).doors.l = κ.doors.l.map fun p => (p.1, (fun x (y : Prs) => if x = k then v else y) p.1 p.2) := by
    show κ.doors.l.map _ = _
    refine List.map_congr_left fun p _ => ?_
    by_cases e : p.1 = k
    · rw [if_pos e]
      dsimp only
      rw [if_pos e]
    · rw [if_neg e]
      dsimp only
      rw [if_neg e]
  rw [e, look_mapK (fun x (y : Prs) => if x = k then v else y) d, hl]
  rfl
theorem leads_newK {b : Bool} {n : Nm} {st : List Nm} {d : Nm} : leadsK (newK b n st) d = [] := by
  unfold leadsK
  show (look (st.map fun s => (s, ([] : List Nm))) d).getD [] = []
  unfold look
  cases e : (st.map fun s => (s, ([] : List Nm))).find? fun p => decide (p.1 = d) with
  | none => rfl
  | some p =>
    obtain ⟨s, _, hs⟩ := List.mem_map.mp (List.mem_of_find?_eq_some e)
    rw [← hs]
    rfl
abbrev oneRow (κ : KindV) (s : Nm) : RowK := T3.mk s (Tu.mk (fromK κ s)) (doorsK κ s)
theorem rows_set {κ κ' : KindV} (ho : κ'.order = κ.order) (hn : κ.order.Nodup) {j : Nat} {s : Nm} (hj : κ.order[j]? = some s) (h : ∀ t ∈ κ.order, t ≠ s → fromK κ' t = fromK κ t ∧ doorsK κ' t = doorsK κ t) :
    rowsK κ' = (rowsK κ).set j (oneRow κ' s) := by
  unfold rowsK
  rw [ho]
  refine List.ext_getElem? fun i => ?_
  rw [List.getElem?_map]
  by_cases hi : i = j
  · subst hi
    rw [hj, List.getElem?_set_self (by rw [List.length_map]; exact at_lt hj)]
    rfl
  · rw [List.getElem?_set_ne (Ne.symm hi), List.getElem?_map]
    cases e : κ.order[i]? with
    | none => rfl
    | some t =>
      have : t ≠ s := fun z => hi ((List.getElem?_inj (at_lt e) hn).mp (by rw [e, z, hj]))
      obtain ⟨h1, h2⟩ := h t (List.mem_of_getElem? e) this
      show some (T3.mk t _ _) = some (T3.mk t _ _)
      rw [h1, h2]
structure FillI (b : Bool) (n : Nm) (st : List Nm) (i : Nat) (s : List RowK × KindV) : Prop where
  ok : KOk s.2
  ord : s.2.order = st
  nm : s.2.name = n
  mn : s.2.many = b
  rows : s.1 = (st.take i).map (oneRow s.2)
  nil : ∀ (j : Nat) (t : Nm), i ≤ j → st[j]? = some t → leadsK s.2 t = []
structure FillJ (b : Bool) (n : Nm) (st : List Nm) (κ : KindV) (x : Nm) (L : List Nm) (t : Nat) (κ1 : KindV) : Prop where
  ok : KOk κ1
  ord : κ1.order = st
  nm : κ1.name = n
  mn : κ1.many = b
  led : leadsK κ1 x = L.take t
  oth : ∀ d ∈ st, d ≠ x → leadsK κ1 d = leadsK κ d
  drs : ∀ d, doorsK κ1 d = doorsK κ d
theorem law_filled {b : Bool} {n : Nm} {st ds : List Nm} (hn : st.Nodup) (h0 : 0 < st.length) (h60 : st.length ≤ 60) (d0 : 0 < ds.length) (d60 : ds.length ≤ 60) {k : (List RowK × KindV) → Prop} {kx : KindV → KX}
    (hk : ∀ κ, KOk κ → κ.order = st → κ.name = n → κ.many = b → k (rowsK κ, κ)) : m_law_filled (newK b n st) st ds k kx := by
  refine ⟨FillI b n st, ⟨newK_ok hn (by omega), rfl, rfl, rfl, rfl, fun j t _ _ => leads_newK⟩, ?_, ?_⟩
  · rintro i x ⟨rs, κ⟩ hx I
    have hxs : x ∈ st := List.mem_of_getElem? hx
    have hxi := at_lt hx
    refine law_some h0 h60 (by decide) (by decide) fun r r1 r2 r3 => ⟨by omega, ?_⟩
    have hL : (List.filter (fun x16 : Nm => (!(decide (x16 = x)))) r).Nodup := r1.filter _
    have hLm : ∀ c ∈ List.filter (fun x16 : Nm => (!(decide (x16 = x)))) r, c ∈ st ∧ x ≠ c := fun c hc => by
      obtain ⟨c1, c2⟩ := List.mem_filter.mp hc
      refine ⟨r3 c c1, fun z => ?_⟩
      subst z
      rw [t_ne] at c2
      cases c2
    generalize hLe : List.filter (fun x16 : Nm => (!(decide (x16 = x)))) r = L at hL hLm
    refine ⟨FillJ b n st κ x L, ⟨I.ok, I.ord, I.nm, I.mn, (I.nil i x (Nat.le_refl _) hx), fun _ _ _ => rfl, fun _ => rfl⟩, ?_, ?_⟩
    · intro t c κ1 hc J
      obtain ⟨c1, c2⟩ := hLm c (List.mem_of_getElem? hc)
      refine ⟨⟨by rw [J.ord]; exact hxs, by rw [J.ord]; exact c1, c2⟩, allow_ok J.ok x c, J.ord, J.nm, J.mn, ?_, fun d hd hne => ?_, J.drs⟩
      · rw [leads_allowK J.ok (by rw [J.ord]; exact hxs), if_pos rfl, J.led, if_neg (not_in_take hL hc), take_snoc hc]
      · rw [leads_allowK J.ok (by rw [J.ord]; exact hd), if_neg hne]
        exact J.oth d hd hne
    · intro κ1 J
      have jl : leadsK κ1 x = L := by rw [J.led, List.take_length]
      refine law_some d0 d60 (by decide) (by decide) fun r26 n1 n2 n3 => ?_
      refine law_some d0 d60 (by decide) (by decide) fun r28 g1 g2 g3 => ?_
      have hrl : rs.length ≤ 60 := by
        have hrs : rs = (st.take i).map (oneRow κ) := I.rows
        rw [hrs, List.length_map, List.length_take]
        omega
      have o1 : okSq (Sq.mk true (Tu.mk r26).l) := by show r26.length ≤ 1000000; omega
      have o2 : okSq (Sq.mk true (Tu.mk r28).l) := by show r28.length ≤ 1000000; omega
      refine ⟨⟨by rw [J.ord]; exact hxs, o1, o2⟩, by omega, by show rs.length < _; omega, ?_⟩
      have ev : (onceT (Sq.mk true (Tu.mk r26).l), onceT (Sq.mk true (Tu.mk r28).l)) = ((Tu.mk r26, Tu.mk r28) : Prs) := by
        show (Tu.mk (onceL r26), Tu.mk (onceL r28)) = _
        rw [onceL_same _ n1, onceL_same _ g1]
      rw [ev]
      have dx : ∀ d ∈ st, doorsK (setF' κ1 x (Tu.mk r26, Tu.mk r28)) d = if d = x then (Tu.mk r26, Tu.mk r28) else doorsK κ d := fun d hd => by
        rw [doors_setK J.ok (by rw [J.ord]; exact hd), J.drs]
      have fx : ∀ d ∈ st, d ≠ x → oneRow (setF' κ1 x (Tu.mk r26, Tu.mk r28)) d = oneRow κ d := fun d hd hne => by
        have e1 : fromK (setF' κ1 x (Tu.mk r26, Tu.mk r28)) d = fromK κ d := by
          show List.filter (fun c => inb c (leadsK κ1 d)) κ1.order = List.filter (fun c => inb c (leadsK κ d)) κ.order
          have ho : κ.order = st := I.ord
          rw [J.oth d hd hne, J.ord, ho]
        unfold oneRow
        rw [e1, dx d hd, if_neg hne]
      refine ⟨set_ok J.ok x _, J.ord, J.nm, J.mn, ?_, fun j t hj ht => ?_⟩
      · rw [take_snoc hx, List.map_append]
        have e0 : rs = (st.take i).map (oneRow (setF' κ1 x (Tu.mk r26, Tu.mk r28))) := by
          refine I.rows.trans (List.map_congr_left fun d hd => (fx d (List.mem_of_mem_take hd) fun z => ?_).symm)
          rw [z] at hd
          exact not_in_take hn hx hd
        show rs ++ [_] = _ ++ [oneRow (setF' κ1 x (Tu.mk r26, Tu.mk r28)) x]
        rw [← e0]
        unfold oneRow
        rw [dx x hxs, if_pos rfl]
        have e2 : fromK (setF' κ1 x (Tu.mk r26, Tu.mk r28)) x = List.filter (fun c : Nm => inb c L) st := by
          show List.filter (fun c => inb c (leadsK κ1 x)) κ1.order = _
          rw [jl, J.ord]
        rw [e2]
      · have hts : t ∈ st := List.mem_of_getElem? ht
        have hne : t ≠ x := fun z => by
          subst z
          have := (List.getElem?_inj hxi hn).mp (hx.trans ht.symm)
          omega
        show leadsK κ1 t = []
        rw [J.oth t hts hne]
        exact I.nil j t (by omega) ht
  · rintro ⟨rs, κ⟩ I
    have h := hk κ I.ok I.ord I.nm I.mn
    have e : rs = rowsK κ := by
      have ho : κ.order = st := I.ord
      unfold rowsK
      rw [ho]
      have := I.rows
      rw [List.take_length] at this
      exact this
    show k (rs, κ)
    rw [e]
    exact h
theorem atI_last {α : Type} {l : List α} {x : α} (h : l[l.length - 1]? = some x) : atI l (-(1 : Int)) = some x := by
  have h1 := at_lt h
  have := atI_neg (l := l) (k := 0) (by omega)
  rw [show (-1 - ((0 : Nat) : Int)) = -(1 : Int) by omega] at this
  rw [this, ← h, List.getElem?_eq_getElem h1]
  rfl
theorem ixN_last {n : Nat} (h : 0 < n) : ixN n (-(1 : Int)) = some (n - 1) := by
  unfold ixN
  rw [if_neg (by omega), if_pos (by omega)]
  congr 1
  omega
theorem toldK_same {κ κ' : KindV} (hn : κ'.name = κ.name) (ho : κ'.order = κ.order) (hm : κ'.many = κ.many) {rs : List RowK} (hr : rowsK κ' = rs) : toldK κ' = T4.mk κ.name (Tu.mk κ.order) rs (rowK κ) := by
  have e : rowK κ' = rowK κ := by unfold rowK rowP; rw [hn, ho, hm]
  unfold toldK
  rw [hn, ho, hr, e]
theorem law_apart {κ : KindV} (ok : KOk κ) (hz : smallK κ) (h0 : 0 < κ.order.length) (h60 : κ.order.length ≤ 60) {s : Nm} {k : (Bool × KindV × KindV) → Prop} {kx : (KindV × KindV) → KX} (hk : ∀ κ1 κ2, k (true, κ1, κ2)) :
    m_law_apart κ κ (!κ.many) (toldK κ) s k kx := by
  have nd := ok.nd
  obtain ⟨f, hf⟩ : ∃ f, κ.order[0]? = some f := ⟨κ.order[0], List.getElem?_eq_getElem h0⟩
  obtain ⟨u, hu⟩ : ∃ u, κ.order[κ.order.length - 1]? = some u := ⟨κ.order[κ.order.length - 1]'(by omega), List.getElem?_eq_getElem _⟩
  have hfm : f ∈ κ.order := List.mem_of_getElem? hf
  have hum : u ∈ κ.order := List.mem_of_getElem? hu
  have hrl : (rowsK κ).length = κ.order.length := by unfold rowsK; rw [List.length_map]
  have rat : ∀ {κ' : KindV} {i : Nat} {d : Nm}, κ'.order[i]? = some d → (rowsK κ')[i]? = some (oneRow κ' d) := fun h => by unfold rowsK; rw [List.getElem?_map, h]; rfl
  have af : atI (toldK κ).b.l (0 : Int) = some f := atN (l := κ.order) (i := 0) hf
  have au : atI (toldK κ).b.l (-(1 : Int)) = some u := atI_last (l := κ.order) hu
  have aru : atI (toldK κ).c (-(1 : Int)) = some (oneRow κ u) := atI_last (l := rowsK κ) (by rw [hrl]; exact rat hu)
  have iru : ixN (toldK κ).c.length (-(1 : Int)) = some (κ.order.length - 1) := by
    show ixN (rowsK κ).length _ = _
    rw [hrl]
    exact ixN_last h0
  refine ⟨fun rs κ1 => rs = rowsK κ1 ∧ KOk κ1 ∧ κ1.order = κ.order ∧ κ1.name = κ.name ∧ κ1.many = κ.many, ⟨fun c => ?_, fun _ => ⟨rfl, ok, rfl, rfl, rfl⟩⟩, ?_⟩
  · have hl : 1 < κ.order.length := by
      have c : (1 : Int) < ((rowsK κ).length : Int) := of_decide_eq_true c
      omega
    have hne : u ≠ f := fun z => by
      rw [z] at hu
      have := (List.getElem?_inj (show κ.order.length - 1 < κ.order.length by omega) nd).mp (hu.trans hf.symm)
      omega
    refine ⟨u, au, f, af, ⟨hum, hfm, hne⟩, ?_⟩
    refine ⟨fun i acc => acc = (κ.order.take i).filter fun x => decide (x = f) || inb x (fromK κ u), rfl, ?_, ?_⟩
    · intro i x acc hx hacc
      have hx : κ.order[i]? = some x := hx
      refine ⟨by
        rw [hacc]
        have := List.length_filter_le (fun x => decide (x = f) || inb x (fromK κ u)) (κ.order.take i)
        have := List.length_take_le' i κ.order
        omega, f, af, fun c => ?_, fun c => ⟨oneRow κ u, aru, fun d => ?_, fun d => ?_⟩⟩
      · show acc ++ [x] = _
        rw [take_snoc hx, List.filter_append, ← hacc]
        simp [c]
      · have d : inb x (fromK κ u) = true := d
        show acc ++ [x] = _
        rw [take_snoc hx, List.filter_append, ← hacc]
        simp [d]
      · have d : inb x (fromK κ u) = false := d
        show acc ++ ([] : List Nm) = _
        rw [List.append_nil, take_snoc hx, List.filter_append, ← hacc]
        have : (decide (x = f) || inb x (fromK κ u)) = false := by rw [c, d]; rfl
        simp [this]
    · intro acc hacc
      have hacc : acc = (κ.order.take κ.order.length).filter fun x => decide (x = f) || inb x (fromK κ u) := hacc
      rw [List.take_length] at hacc
      refine ⟨u, au, oneRow κ u, aru, κ.order.length - 1, iru, ?_, allow_ok ok u f, rfl, rfl, rfl⟩
      have hfr : ∀ t ∈ κ.order, t ≠ u → fromK (allowF κ u f) t = fromK κ t ∧ doorsK (allowF κ u f) t = doorsK κ t := fun t ht hne => by
        refine ⟨?_, rfl⟩
        show List.filter (fun c => inb c (leadsK (allowF κ u f) t)) κ.order = List.filter (fun c => inb c (leadsK κ t)) κ.order
        rw [leads_allowK ok ht, if_neg hne]
      refine Eq.trans ?_ (rows_set (κ := κ) (κ' := allowF κ u f) rfl nd hu hfr).symm
      have e : fromK (allowF κ u f) u = acc := by
        show List.filter (fun c => inb c (leadsK (allowF κ u f) u)) κ.order = acc
        rw [leads_allowK ok hum, if_pos rfl, hacc]
        refine List.filter_congr fun x hx => ?_
        have e1 : inb x (fromK κ u) = inb x (leadsK κ u) := by
          unfold inb fromK
          refine decide_eq_decide.mpr ⟨fun z => ?_, fun z => List.mem_filter.mpr ⟨hx, inb_t.mpr z⟩⟩
          exact inb_t.mp (List.mem_filter.mp z).2
        rw [e1]
        by_cases hc : f ∈ leadsK κ u
        · rw [if_pos hc]
          by_cases hxf : x = f
          · subst hxf
            rw [inb_t.mpr hc, decide_eq_true rfl]
            rfl
          · rw [decide_eq_false hxf, Bool.false_or]
        · rw [if_neg hc]
          unfold inb
          by_cases hxf : x = f
          · subst hxf
            simp
          · simp [hxf]
      show (rowsK κ).set _ (T3.mk u (Tu.mk acc) (doorsK κ u)) = (rowsK κ).set _ (T3.mk u (Tu.mk (fromK (allowF κ u f) u)) (doorsK κ u))
      rw [e]
  · rintro rs κ1 ⟨rfl, ok1, ho, hn1, hm1⟩
    have hf1 : κ1.order[0]? = some f := by rw [ho]; exact hf
    have hfm1 : f ∈ κ1.order := by rw [ho]; exact hfm
    have hrl1 : (rowsK κ1).length = κ.order.length := by unfold rowsK; rw [List.length_map, ho]
    have ev1 : (onceT (Sq.mk false ([s])), onceT (Sq.mk true (Tu.mk [s, s]).l)) = ((Tu.mk [s], Tu.mk [s]) : Prs) := by
      have h2 : onceL [s, s] = [s] := by
        rw [show [s, s] = [s] ++ [s] from rfl, onceL_snoc, onceL_same [s] (by simp), if_pos (inb_t.mpr (by simp))]
      show (Tu.mk (onceL [s]), Tu.mk (onceL [s, s])) = _
      rw [h2, onceL_same [s] (by simp)]
    have o1 : okSq (Sq.mk false [s]) := by show (1 : Nat) ≤ 1000000; decide
    have o2 : okSq (Sq.mk true (Tu.mk [s, s]).l) := by show (2 : Nat) ≤ 1000000; decide
    have o3 : okSq (Sq.mk true (Tu.mk ([] : List Nm)).l) := by show (0 : Nat) ≤ 1000000; decide
    have ok2 := set_ok ok1 f ((Tu.mk [s], Tu.mk [s]) : Prs)
    have fr2 : ∀ t ∈ κ1.order, t ≠ f → fromK (setF' κ1 f (Tu.mk [s], Tu.mk [s])) t = fromK κ1 t ∧ doorsK (setF' κ1 f (Tu.mk [s], Tu.mk [s])) t = doorsK κ1 t := fun t ht hne => ⟨rfl, by rw [doors_setK ok1 ht, if_neg hne]⟩
    have rs2 := rows_set (κ := κ1) (κ' := setF' κ1 f (Tu.mk [s], Tu.mk [s])) rfl ok1.nd hf1 fr2
    have one2 : oneRow (setF' κ1 f (Tu.mk [s], Tu.mk [s])) f = T3.mk f (oneRow κ1 f).b ((Tu.mk [s]), (Tu.mk [s])) := by
      unfold oneRow
      rw [doors_setK ok1 hfm1, if_pos rfl]
      rfl
    rw [one2] at rs2
    have sm2 : smallK (setF' κ1 f (Tu.mk [s], Tu.mk [s])) := by
      unfold smallK at hz ⊢
      show κ1.name.1.length + ((κ1.order.map _).sum + 2 * κ1.order.length) ≤ 900
      rw [hn1, ho]
      exact hz
    have told2 : toldK (setF' κ1 f (Tu.mk [s], Tu.mk [s])) = T4.mk (toldK κ).a (toldK κ).b ((rowsK κ1).set 0 (T3.mk f (oneRow κ1 f).b ((Tu.mk [s]), (Tu.mk [s])))) (toldK κ).d := toldK_same (κ := κ) (κ' := setF' κ1 f (Tu.mk [s], Tu.mk [s])) hn1 ho hm1 rs2
    have b2 : (!κ.many) = !(setF' κ1 f (Tu.mk [s], Tu.mk [s])).many := by show (!κ.many) = !κ1.many; rw [hm1]
    refine ⟨f, af, ⟨hfm1, o1, o2⟩, f, af, oneRow κ1 f, atN (i := 0) (rat hf1), 0, ixN_nat (i := 0) (by rw [hrl1]; exact h0), ?_⟩
    rw [ev1]
    refine ⟨fun b => b = false, ⟨⟨b2, sm2⟩, fun _ => ⟨⟨rfl, hz⟩, ?_⟩, fun c => ?_⟩, fun b hb => ⟨fun c => ?_, fun _ => ?_⟩⟩
    · exact t_ne _
    · rw [told2, t_ne] at c
      cases c
    · rw [hb] at c
      cases c
    have ev3 : (onceT (Sq.mk true (Tu.mk ([] : List Nm)).l), onceT (Sq.mk true (Tu.mk ([] : List Nm)).l)) = ((Tu.mk [], Tu.mk []) : Prs) := rfl
    have fr3 : ∀ t ∈ κ.order, t ≠ u → fromK (setF' κ u (Tu.mk [], Tu.mk [])) t = fromK κ t ∧ doorsK (setF' κ u (Tu.mk [], Tu.mk [])) t = doorsK κ t := fun t ht hne => ⟨rfl, by rw [doors_setK ok ht, if_neg hne]⟩
    have rs3 := rows_set (κ := κ) (κ' := setF' κ u (Tu.mk [], Tu.mk [])) rfl nd hu fr3
    have one3 : oneRow (setF' κ u (Tu.mk [], Tu.mk [])) u = T3.mk u (oneRow κ u).b ((Tu.mk []), (Tu.mk [])) := by
      unfold oneRow
      rw [doors_setK ok hum, if_pos rfl]
      rfl
    rw [one3] at rs3
    have told3 : toldK (setF' κ u (Tu.mk [], Tu.mk [])) = T4.mk (toldK κ).a (toldK κ).b ((toldK κ).c.set (κ.order.length - 1) (T3.mk u (oneRow κ u).b ((Tu.mk []), (Tu.mk [])))) (toldK κ).d := toldK_same (κ := κ) (κ' := setF' κ u (Tu.mk [], Tu.mk [])) rfl rfl rfl rs3
    refine ⟨u, au, ⟨hum, o3, o3⟩, u, au, oneRow κ u, aru, κ.order.length - 1, iru, ⟨b2, sm2⟩, fun _ => ⟨⟨rfl, hz⟩, ?_⟩, fun c => ?_⟩
    · rw [ev3]
      show k (decide (toldK (setF' κ u (Tu.mk [], Tu.mk [])) = _), _, _)
      rw [told3, decide_eq_true rfl]
      exact hk _ _
    · rw [told2, decide_eq_true rfl] at c
      cases c
theorem lcI_names {n : Nat} {b : BaseS} {K : List Nm → Prop} (hz : n ≤ 12) (hk : ∀ acc : List Nm, acc.length = n → (∀ (j : Nat) (z : Nm), acc[j]? = some z → NameOk j z.1) → K acc) :
    lcI (List.range n) (fun (x : Nat) J => m_law_name b (x : Int) (fun r => J (some r))) K := by
  refine ⟨fun i acc => acc.length = i ∧ ∀ j z, acc[j]? = some z → NameOk j z.1, ⟨rfl, fun j z h => by simp at h⟩, fun i x acc hx ⟨hl, ha⟩ => ?_, fun acc ⟨hl, ha⟩ => hk acc (by rw [hl, List.length_range]) ha⟩
  have hlt := at_lt hx
  rw [List.length_range] at hlt
  rw [List.getElem?_range hlt] at hx
  cases hx
  refine ⟨by omega, ⟨by omega, by omega⟩, fun z hz => ⟨?_, fun j w hj => ?_⟩⟩
  · show (acc ++ [z]).length = i + 1
    rw [List.length_append, hl]
    rfl
  · have hj : (acc ++ [z])[j]? = some w := hj
    by_cases h : j < acc.length
    · rw [List.getElem?_append_left h] at hj
      exact ha j w hj
    · have h1 := at_lt hj
      rw [List.length_append] at h1
      have h1 : j < acc.length + 1 := h1
      have hji : j = i := by omega
      rw [List.getElem?_append_right (by omega), show j - acc.length = 0 by omega] at hj
      cases hj
      rw [hji]
      exact hz
theorem sum_12 : ∀ {l : List Nm}, (∀ z ∈ l, z.1.length ≤ 12) → (l.map fun v : Nm => v.1.length).sum ≤ 12 * l.length
  | [], _ => Nat.zero_le _
  | z :: l, h => by
    have h1 := h z List.mem_cons_self
    have h2 := sum_12 (l := l) fun y hy => h y (List.mem_cons_of_mem _ hy)
    rw [List.map_cons, List.sum_cons, List.length_cons]
    omega
theorem law_true : m_law (fun b => b = true) := by
  intro bs
  refine drw_few (by decide) (by decide) fun r4 a1 a2 => ⟨⟨by omega, by omega⟩, fun r5 hr5 => ?_⟩
  refine draw_in (l := [(2 : Int), (1 : Int), (3 : Int), (4 : Int), (5 : Int), (6 : Int)]) (by rfl) (by decide) (by decide) fun v8 hv => ?_
  have h8 : 1 ≤ v8 ∧ v8 ≤ 6 := by
    simp only [List.mem_cons, List.not_mem_nil, or_false] at hv
    omega
  obtain ⟨n, rfl⟩ : ∃ n : Nat, v8 = (n : Int) := ⟨v8.toNat, by omega⟩
  have hn1 : 1 ≤ n := by omega
  have hn2 : n ≤ 6 := by omega
  refine ⟨by omega, ?_⟩
  rw [Int.toNat_natCast]
  refine lcI_names (by omega) fun st hsl hst => ?_
  rw [show Int.toNat (3 : Int) = 3 from rfl]
  refine lcI_names (by omega) fun ds hdl hds => ⟨⟨by omega, by omega⟩, fun s hs => ?_⟩
  have nd := nm_nd hst
  have hsum := sum_12 (l := st) fun z hz => by
    obtain ⟨j, hj⟩ := List.mem_iff_getElem?.mp hz
    exact (hst j z hj).len
  have hr := hr5.len
  have hj : (List.map (fun v : Nm => v.1.length) st).sum + 2 * st.length ≤ 1000 := by omega
  have hjl := jnD_len hj
  have c2 : (⟨": ", by decide +kernel⟩ : Nm).1.length = 2 := cl2_len
  have l1 : r5.1.length + (⟨": ", by decide +kernel⟩ : Nm).1.length ≤ 1000 := by rw [c2]; omega
  have e1 : (nmApp r5 (⟨": ", by decide +kernel⟩ : Nm)).1.length = r5.1.length + 2 := by
    unfold nmApp
    rw [dif_pos l1]
    show (r5.1 ++ _).length = _
    rw [str_app_len, c2]
  have l2 : (nmApp r5 (⟨": ", by decide +kernel⟩ : Nm)).1.length + (nmJnD st).1.length ≤ 1000 := by rw [e1]; omega
  have sm : ∀ κ : KindV, κ.order = st → κ.name = r5 → smallK κ := fun κ h1 h2 => by
    unfold smallK
    rw [h1, h2]
    omega
  have rp0 : ∀ κ : KindV, κ.order = st → κ.name = r5 → rowP κ = nmApp (nmApp r5 (⟨": ", by decide +kernel⟩ : Nm)) (nmJnD st) := fun κ h1 h2 => by
    unfold rowP
    rw [h1, h2]
  have hrl : (nmApp (nmApp r5 (⟨": ", by decide +kernel⟩ : Nm)) (nmJnD st)).1.length ≤ 902 := by
    rw [← rp0 (newK true r5 st) rfl rfl]
    exact rowP_len (sm _ rfl rfl)
  have hro := rp0 (newK true r5 st) rfl rfl
  refine ⟨l1, hj, l2, ⟨by omega, nd, sm _ rfl rfl⟩, fun c => ?_, fun _ => ⟨⟨by omega, nd⟩, ⟨by omega, nd⟩, ?_⟩⟩
  · rw [hro, t_ne] at c
    cases c
  generalize hT : nmApp (nmApp r5 (⟨": ", by decide +kernel⟩ : Nm)) (nmJnD st) = tx at hrl
  have w1 : (⟨" (one)", by decide +kernel⟩ : Nm).1.length ≤ 20 := by decide +kernel
  have w2 : (⟨" (any number)", by decide +kernel⟩ : Nm).1.length ≤ 20 := by decide +kernel
  have told : ∀ κ : KindV, KOk κ → κ.order = st → κ.name = r5 → ∀ (b : Bool) (w : Nm), κ.many = b → (if b then anyN else oneN) = w → toldK κ = T4.mk r5 (Tu.mk st) (rowsK κ) (nmApp tx w) := fun κ _ h1 h2 b w h3 h4 => by
    have e : rowK κ = nmApp tx w := by
      unfold rowK
      rw [rp0 κ h1 h2, hT, h3, h4]
    unfold toldK
    rw [h1, h2, e]
  have second : ∀ {k : Bool → Prop}, k true → (st.length ≤ 1000000 ∧ List.Nodup (α := Nm) st) ∧ (m_law_filled (newK true r5 st) st ds (fun r80 => (tx.1.length + (⟨" (any number)", by decide +kernel⟩ : Nm).1.length ≤ 1000) ∧ (∃ U89 : Bool → Prop, (m_law_told r80.2 false (fun r90 => ((!(decide (r90 = (T4.mk r5 (Tu.mk st) r80.1 (nmApp tx (⟨" (any number)", by decide +kernel⟩ : Nm)))))) = false → m_law_told r80.2 false (fun r94 => U89 (!(decide (r94 = (T4.mk r5 (Tu.mk st) r80.1 (nmApp tx (⟨" (any number)", by decide +kernel⟩ : Nm))))))) (fun _ _ _ => False)) ∧ ((!(decide (r90 = (T4.mk r5 (Tu.mk st) r80.1 (nmApp tx (⟨" (any number)", by decide +kernel⟩ : Nm)))))) = true → U89 true)) (fun _ _ _ => False)) ∧ ∀ b, U89 b → ((b = true → k false) ∧ (b = false → drw (2 : Int) (fun r99 => (r99 = (0 : Int) → m_law_apart r80.2 r80.2 false (T4.mk r5 (Tu.mk st) r80.1 (nmApp tx (⟨" (any number)", by decide +kernel⟩ : Nm))) s (fun r100 => ((!r100.1) = true → k false) ∧ ((!r100.1) = false → k true)) (fun _ _ _ => False)) ∧ (r99 = (1 : Int) → m_law_apart r80.2 r80.2 false (T4.mk r5 (Tu.mk st) r80.1 (nmApp tx (⟨" (any number)", by decide +kernel⟩ : Nm))) s (fun r106 => ((!r106.1) = true → k false) ∧ ((!r106.1) = false → k true)) (fun _ _ _ => False)) ∧ (r99 = 0 ∨ r99 = 1)))))) (fun _ _ _ => False)) := by
    intro k hk
    refine ⟨⟨by omega, nd⟩, law_filled nd (by omega) (by omega) (by omega) (by omega) fun κ ok ho hn hm => ⟨by omega, ?_⟩⟩
    have ht := told κ ok ho hn true _ hm rfl
    rw [if_pos rfl] at ht
    rw [← ht]
    have hb : false = !κ.many := by rw [hm]; rfl
    have ap : m_law_apart κ κ false (toldK κ) s (fun r100 => ((!r100.1) = true → k false) ∧ ((!r100.1) = false → k true)) (fun _ _ _ => False) := by
      have := law_apart ok (sm κ ho hn) (by rw [ho]; omega) (by rw [ho]; omega) (s := s) (k := fun r100 => ((!r100.1) = true → k false) ∧ ((!r100.1) = false → k true)) (kx := fun _ _ _ => False) fun _ _ => ⟨(fun c => nomatch c), fun _ => hk⟩
      rw [← hb] at this
      exact this
    refine ⟨fun b => b = false, ⟨⟨hb, sm κ ho hn⟩, fun _ => ⟨⟨hb, sm κ ho hn⟩, t_ne _⟩, fun c => ?_⟩, fun b e => ⟨fun c => ?_, fun _ => drw_few (by decide) (by decide) fun r b1 b2 => ⟨fun _ => ap, fun _ => ap, by omega⟩⟩⟩
    · rw [t_ne] at c; cases c
    · rw [e] at c; cases c
  refine law_filled nd (by omega) (by omega) (by omega) (by omega) fun κ ok ho hn hm => ⟨by omega, ?_⟩
  have ht := told κ ok ho hn false _ hm rfl
  rw [if_neg (by decide)] at ht
  rw [← ht]
  have hb : true = !κ.many := by rw [hm]; rfl
  have ap : ∀ {K : Bool × KindV × KindV → Prop}, (∀ κ1 κ2, K (true, κ1, κ2)) → m_law_apart κ κ true (toldK κ) s K (fun _ _ _ => False) := fun hK => by
    have := law_apart ok (sm κ ho hn) (by rw [ho]; omega) (by rw [ho]; omega) (s := s) (kx := fun _ _ _ => False) hK
    rw [← hb] at this
    exact this
  refine ⟨fun b => b = false, ⟨⟨hb, sm κ ho hn⟩, fun _ => ⟨⟨hb, sm κ ho hn⟩, t_ne _⟩, fun c => ?_⟩, fun b e => ⟨fun c => ?_, fun _ => drw_few (by decide) (by decide) fun r b1 b2 => ⟨fun _ => ap fun _ _ => ⟨(fun c => nomatch c), fun _ => second (k := fun b => b = true) rfl⟩, fun _ => ap fun _ _ => ⟨(fun c => nomatch c), fun _ => second (k := fun b => b = true) rfl⟩, by omega⟩⟩⟩
  · rw [t_ne] at c; cases c
  · rw [e] at c; cases c
theorem ok_law (T : Tx P K mg a) : FnOk P w K mg base CX0 12 a.f_law a.fd_law ["_law_script"] (spLaw K) := ok_law_of T law_true
end
theorem all_mk : LawOk := by
  unfold LawOk
  intro l w K h mg fa X G hfa C_Steps C_Doors C_Part C_Single C_Many C_Repeated nm_Repeated q_Repeated N_Repeated bs_Repeated bm_Repeated sn_Repeated sb_Repeated ab_Repeated cl_Repeated dd_Repeated k0_Repeated k1_Repeated k2_Repeated k3_Repeated k5_Repeated C_Unknown nm_Unknown q_Unknown N_Unknown bs_Unknown bm_Unknown sn_Unknown sb_Unknown ab_Unknown cl_Unknown dd_Unknown k0_Unknown k1_Unknown k2_Unknown k3_Unknown k5_Unknown C_NoStep nm_NoStep q_NoStep N_NoStep bs_NoStep bm_NoStep sn_NoStep sb_NoStep ab_NoStep cl_NoStep dd_NoStep k0_NoStep k1_NoStep k2_NoStep k3_NoStep k5_NoStep f_Repeated_init cda_Repeated_init cc_Repeated_init od_5 an_5 sl_5 oc_5 kV_5 dc_5 pm_5 ct_5 ccl_Repeated_init cl_Repeated_init cdd_Repeated_init cld_Repeated_init cvs_Repeated_init ccs_Repeated_init csl_Repeated_init file_Repeated_init tf_Repeated_init f_Unknown_init cda_Unknown_init cc_Unknown_init od_6 an_6 sl_6 oc_6 kV_6 dc_6 pm_6 ct_6 ccl_Unknown_init cl_Unknown_init cdd_Unknown_init cld_Unknown_init cvs_Unknown_init ccs_Unknown_init csl_Unknown_init file_Unknown_init tf_Unknown_init f_NoStep_init cda_NoStep_init cc_NoStep_init od_8 an_8 sl_8 oc_8 kV_8 dc_8 pm_8 ct_8 ccl_NoStep_init cl_NoStep_init cdd_NoStep_init cld_NoStep_init cvs_NoStep_init ccs_NoStep_init csl_NoStep_init file_NoStep_init tf_NoStep_init f_Single_row cda_Single_row cc_Single_row od_13 an_13 sl_13 oc_13 kV_13 dc_13 pm_13 ct_13 ccl_Single_row cl_Single_row cdd_Single_row cld_Single_row cvs_Single_row ccs_Single_row csl_Single_row file_Single_row tf_Single_row f_Many_row cda_Many_row cc_Many_row od_25 an_25 sl_25 oc_25 kV_25 dc_25 pm_25 ct_25 ccl_Many_row cl_Many_row cdd_Many_row cld_Many_row cvs_Many_row ccs_Many_row csl_Many_row file_Many_row tf_Many_row f_Steps_init od_14 an_14 sl_14 oc_14 kV_14 dc_14 pm_14 cd_14 ct_14 f_Steps_standings od_1 an_1 sl_1 oc_1 kV_1 dc_1 pm_1 cd_1 ct_1 f_Steps_allow od_9 an_9 sl_9 oc_9 kV_9 dc_9 pm_9 cd_9 ct_9 f_Steps_steps_from od_0 an_0 sl_0 oc_0 kV_0 dc_0 pm_0 cd_0 ct_0 f_Doors_init od_11 an_11 sl_11 oc_11 kV_11 dc_11 pm_11 cd_11 ct_11 f_Doors_iter od_15 an_15 sl_15 oc_15 kV_15 dc_15 pm_15 cd_15 ct_15 f_Doors_getitem od_4 an_4 sl_4 oc_4 kV_4 dc_4 pm_4 cd_4 ct_4 f_Doors_setitem od_3 an_3 sl_3 oc_3 kV_3 dc_3 pm_3 cd_3 ct_3 f_without_repeats od_2 an_2 sl_2 oc_2 kV_2 dc_2 pm_2 cd_2 ct_2 f_Part_init od_16 an_16 sl_16 oc_16 kV_16 dc_16 pm_16 cd_16 ct_16 f_Part_row od_22 an_22 sl_22 oc_22 kV_22 dc_22 pm_22 cd_22 ct_22 f_Part_filled od_10 an_10 sl_10 oc_10 kV_10 dc_10 pm_10 cd_10 ct_10 f_Single_twin od_7 an_7 sl_7 oc_7 kV_7 dc_7 pm_7 cd_7 ct_7 f_Many_twin od_17 an_17 sl_17 oc_17 kV_17 dc_17 pm_17 cd_17 ct_17 f_law_pool od_23 an_23 sl_23 oc_23 kV_23 dc_23 pm_23 cd_23 ct_23 f_law_take od_21 an_21 sl_21 oc_21 kV_21 dc_21 pm_21 cd_21 ct_21 f_law_base od_19 an_19 sl_19 oc_19 kV_19 dc_19 pm_19 cd_19 ct_19 f_law_name od_24 an_24 sl_24 oc_24 kV_24 dc_24 pm_24 cd_24 ct_24 f_law_some od_26 an_26 sl_26 oc_26 kV_26 dc_26 pm_26 cd_26 ct_26 f_law_told od_20 an_20 sl_20 oc_20 kV_20 dc_20 pm_20 cd_20 ct_20 f_law_filled od_12 an_12 sl_12 oc_12 kV_12 dc_12 pm_12 cd_12 ct_12 f_law_apart od_18 an_18 sl_18 oc_18 kV_18 dc_18 pm_18 cd_18 ct_18 f_law od_27 an_27 sl_27 oc_27 kV_27 dc_27 pm_27 cd_27 ct_27 aC_Steps aC_Doors aC_Part aC_Single aC_Many aC_Repeated lC_Repeated rv_Repeated sa_Repeated eb_Repeated ty_Repeated kc_Repeated su_Repeated ve_Repeated mr_Repeated ga_Repeated gg_Repeated hd_Repeated na_Repeated_name aC_Unknown lC_Unknown rv_Unknown sa_Unknown eb_Unknown ty_Unknown kc_Unknown su_Unknown ve_Unknown mr_Unknown ga_Unknown gg_Unknown hd_Unknown na_Unknown_name aC_NoStep lC_NoStep rv_NoStep sa_NoStep eb_NoStep ty_NoStep kc_NoStep su_NoStep ve_NoStep mr_NoStep ga_NoStep gg_NoStep hd_NoStep na_NoStep_before na_NoStep_after stat a_5 ti_Repeated_init l_5 c_5 cd1_Repeated_init cd2_Repeated_init cd3_Repeated_init cl1_Repeated_init a_6 ti_Unknown_init l_6 c_6 cd1_Unknown_init cd2_Unknown_init cd3_Unknown_init cl1_Unknown_init a_8 ti_NoStep_init l_8 c_8 cd1_NoStep_init cd2_NoStep_init cd3_NoStep_init cl1_NoStep_init a_13 ti_Single_row l_13 c_13 cd1_Single_row cd2_Single_row cd3_Single_row cl1_Single_row a_25 ti_Many_row l_25 c_25 cd1_Many_row cd2_Many_row cd3_Many_row cl1_Many_row su_Single_row mr_Single_row fi_Single_row k_13 su_Many_row mr_Many_row fi_Many_row k_25 topS a_14 i_14 l_14 c_14 k_14 a_1 i_1 l_1 c_1 k_1 a_9 i_9 l_9 c_9 k_9 a_0 i_0 l_0 c_0 k_0 a_11 i_11 l_11 c_11 k_11 a_15 i_15 l_15 c_15 k_15 a_4 i_4 fi_Doors_getitem l_4 c_4 k_4 a_3 i_3 l_3 c_3 k_3 a_2 l_2 c_2 k_2 a_16 i_16 l_16 c_16 k_16 a_22 i_22 l_22 c_22 k_22 a_10 i_10 l_10 c_10 k_10 a_7 i_7 l_7 c_7 k_7 a_17 i_17 l_17 c_17 k_17 a_23 l_23 c_23 k_23 a_21 l_21 c_21 k_21 a_19 l_19 c_19 k_19 a_24 l_24 c_24 k_24 a_26 l_26 c_26 k_26 a_20 l_20 c_20 k_20 a_12 l_12 c_12 k_12 a_18 l_18 c_18 k_18 a_law l_27 c_27 k_27 pg_Steps hd_Steps po_Steps sa_Steps mk_Steps kc_Steps ha_Steps hm_Steps sf_Steps nf_Steps nfl_Steps ic_Steps ty_Steps sl_Steps sk_Single_Steps ne_Single_Steps sk_Many_Steps ne_Many_Steps na_Steps_order na_Steps_leads pg_Doors hd_Doors po_Doors sa_Doors mk_Doors kc_Doors ha_Doors hm_Doors sf_Doors nf_Doors nfl_Doors ic_Doors ty_Doors sl_Doors sk_Single_Doors ne_Single_Doors sk_Many_Doors ne_Many_Doors na_Doors_rows na_Doors_doors nq_Doors pg_Part hd_Part po_Part h_Part_standings h_Part_allow h_Part_steps_from h_Part_iter h_Part_getitem h_Part_setitem sa_Part mk_Part kc_Part ha_Part hm_Part sf_Part nf_Part nfl_Part ic_Part ty_Part sl_Part sk_Single_Part ne_Single_Part sk_Many_Part ne_Many_Part na_Part_rows na_Part_doors na_Part_order na_Part_leads na_Part_name nq_Part pg_Single hd_Single po_Single h_Single_init h_Single_filled h_Single_standings h_Single_allow h_Single_steps_from h_Single_iter h_Single_getitem h_Single_setitem sa_Single mk_Single kc_Single ha_Single hm_Single sf_Single nf_Single nfl_Single ic_Single ty_Single sl_Single sk_Many_Single ne_Many_Single na_Single_rows na_Single_doors na_Single_order na_Single_leads na_Single_name nq_Single pg_Many hd_Many po_Many h_Many_init h_Many_filled h_Many_standings h_Many_allow h_Many_steps_from h_Many_iter h_Many_getitem h_Many_setitem sa_Many mk_Many kc_Many ha_Many hm_Many sf_Many nf_Many nfl_Many ic_Many ty_Many sl_Many sk_Single_Many ne_Single_Many na_Many_rows na_Many_doors na_Many_order na_Many_leads na_Many_name nq_Many of_Steps_init cd1_Steps cd2x_Steps of_Doors_init cd1_Doors cd2x_Doors hn ht z_len z_list z_tuple z_int z_range z_isinstance z_iter z_super z_ValueError
  have e : fa = f_law := by
    have e := hfa.symm.trans (PySem.W.mg_of X G a_law)
    injection e with e
    injection e with e
  rw [e]
  have F_Steps_init := funD_of l_14 c_14 k_14
  have b_Steps_init := F_Steps_init.bindsN (ps := ["self", "standings"]) fun _ _ _ _ _ _ us hl => match us, hl with | [_, _], _ => rfl
  have F_Steps_standings := funD_of l_1 c_1 k_1
  have b_Steps_standings := F_Steps_standings.bindsN (ps := ["self"]) fun _ _ _ _ _ _ us hl => match us, hl with | [_], _ => rfl
  have F_Steps_allow := funD_of l_9 c_9 k_9
  have b_Steps_allow := F_Steps_allow.bindsN (ps := ["self", "before", "after"]) fun _ _ _ _ _ _ us hl => match us, hl with | [_, _, _], _ => rfl
  have F_Steps_steps_from := funD_of l_0 c_0 k_0
  have b_Steps_steps_from := F_Steps_steps_from.bindsN (ps := ["self", "standing"]) fun _ _ _ _ _ _ us hl => match us, hl with | [_, _], _ => rfl
  have F_Doors_init := funD_of l_11 c_11 k_11
  have b_Doors_init := F_Doors_init.bindsN (ps := ["self", "standings"]) fun _ _ _ _ _ _ us hl => match us, hl with | [_, _], _ => rfl
  have F_Doors_iter := funD_of l_15 c_15 k_15
  have b_Doors_iter := F_Doors_iter.bindsN (ps := ["self"]) fun _ _ _ _ _ _ us hl => match us, hl with | [_], _ => rfl
  have F_Doors_getitem := funD_of l_4 c_4 k_4
  have b_Doors_getitem := F_Doors_getitem.bindsN (ps := ["self", "standing"]) fun _ _ _ _ _ _ us hl => match us, hl with | [_, _], _ => rfl
  have F_Doors_setitem := funD_of l_3 c_3 k_3
  have b_Doors_setitem := F_Doors_setitem.bindsN (ps := ["self", "standing", "worth"]) fun _ _ _ _ _ _ us hl => match us, hl with | [_, _, _], _ => rfl
  have F_without_repeats := funD_of l_2 c_2 k_2
  have b_without_repeats := F_without_repeats.bindsN (ps := ["names"]) fun _ _ _ _ _ _ us hl => match us, hl with | [_], _ => rfl
  have F_Part_init := funD_of l_16 c_16 k_16
  have b_Part_init := F_Part_init.bindsN (ps := ["self", "name", "standings"]) fun _ _ _ _ _ _ us hl => match us, hl with | [_, _, _], _ => rfl
  have F_Part_row := funD_of l_22 c_22 k_22
  have b_Part_row := F_Part_row.bindsN (ps := ["self"]) fun _ _ _ _ _ _ us hl => match us, hl with | [_], _ => rfl
  have F_Part_filled := funD_of l_10 c_10 k_10
  have b_Part_filled := F_Part_filled.bindsN (ps := ["self", "other"]) fun _ _ _ _ _ _ us hl => match us, hl with | [_, _], _ => rfl
  have F_Single_twin := funD_of l_7 c_7 k_7
  have b_Single_twin := F_Single_twin.bindsN (ps := ["self"]) fun _ _ _ _ _ _ us hl => match us, hl with | [_], _ => rfl
  have F_Many_twin := funD_of l_17 c_17 k_17
  have b_Many_twin := F_Many_twin.bindsN (ps := ["self"]) fun _ _ _ _ _ _ us hl => match us, hl with | [_], _ => rfl
  have F_law_pool := funD_of l_23 c_23 k_23
  have b_law_pool := F_law_pool.bindsN (ps := ["_law_script"]) fun _ _ _ _ _ _ us hl => match us, hl with | [_], _ => rfl
  have F_law_take := funD_of l_21 c_21 k_21
  have b_law_take := F_law_take.bindsN (ps := ["_law_pool_here", "_law_size"]) fun _ _ _ _ _ _ us hl => match us, hl with | [_, _], _ => rfl
  have F_law_base := funD_of l_19 c_19 k_19
  have b_law_base := F_law_base.bindsN (ps := ["_law_pool_here"]) fun _ _ _ _ _ _ us hl => match us, hl with | [_], _ => rfl
  have F_law_name := funD_of l_24 c_24 k_24
  have b_law_name := F_law_name.bindsN (ps := ["_law_pool_here", "_law_base_here", "_law_k"]) fun _ _ _ _ _ _ us hl => match us, hl with | [_, _, _], _ => rfl
  have F_law_some := funD_of l_26 c_26 k_26
  have b_law_some := F_law_some.bindsN (ps := ["_law_pool_here", "_law_rows", "_law_most"]) fun _ _ _ _ _ _ us hl => match us, hl with | [_, _, _], _ => rfl
  have F_law_told := funD_of l_20 c_20 k_20
  have b_law_told := F_law_told.bindsN (ps := ["_law_part", "_law_single"]) fun _ _ _ _ _ _ us hl => match us, hl with | [_, _], _ => rfl
  have F_law_filled := funD_of l_12 c_12 k_12
  have b_law_filled := F_law_filled.bindsN (ps := ["_law_pool_here", "_law_kind", "_law_standings", "_law_doors"]) fun _ _ _ _ _ _ us hl => match us, hl with | [_, _, _, _], _ => rfl
  have F_law_apart := funD_of l_18 c_18 k_18
  have b_law_apart := F_law_apart.bindsN (ps := ["_law_changed", "_law_other", "_law_single", "_law_due", "_law_strange"]) fun _ _ _ _ _ _ us hl => match us, hl with | [_, _, _, _, _], _ => rfl
  have F_law := funD_of l_27 c_27 k_27
  have b_law := F_law.bindsN (ps := ["_law_script"]) fun _ _ _ _ _ _ us hl => match us, hl with | [_], _ => rfl
  have FS_Repeated_init : FunS l.prog K "__init__" "Repeated.__init__" (defArgs s_Repeated_init) (defBody s_Repeated_init) (defScope s_Repeated_init) f_Repeated_init (PySem.W.ksFn "__init__" "Repeated.__init__" (defArgs s_Repeated_init) (defBody s_Repeated_init) (defScope s_Repeated_init) .none kV_5 dc_5 pm_5 an_5 (.ref cda_Repeated_init) ct_5 cc_Repeated_init) C_Repeated cda_Repeated_init cc_Repeated_init := ⟨⟨_, _, kV_5, dc_5, pm_5, an_5, ct_5, _, rfl, l_5, c_5⟩, ⟨_, _, _, _, _, _, cd1_Repeated_init, cd2_Repeated_init, cd3_Repeated_init⟩, ⟨_, _, _, cl1_Repeated_init⟩, topS⟩
  have FS_Unknown_init : FunS l.prog K "__init__" "Unknown.__init__" (defArgs s_Unknown_init) (defBody s_Unknown_init) (defScope s_Unknown_init) f_Unknown_init (PySem.W.ksFn "__init__" "Unknown.__init__" (defArgs s_Unknown_init) (defBody s_Unknown_init) (defScope s_Unknown_init) .none kV_6 dc_6 pm_6 an_6 (.ref cda_Unknown_init) ct_6 cc_Unknown_init) C_Unknown cda_Unknown_init cc_Unknown_init := ⟨⟨_, _, kV_6, dc_6, pm_6, an_6, ct_6, _, rfl, l_6, c_6⟩, ⟨_, _, _, _, _, _, cd1_Unknown_init, cd2_Unknown_init, cd3_Unknown_init⟩, ⟨_, _, _, cl1_Unknown_init⟩, topS⟩
  have FS_NoStep_init : FunS l.prog K "__init__" "NoStep.__init__" (defArgs s_NoStep_init) (defBody s_NoStep_init) (defScope s_NoStep_init) f_NoStep_init (PySem.W.ksFn "__init__" "NoStep.__init__" (defArgs s_NoStep_init) (defBody s_NoStep_init) (defScope s_NoStep_init) .none kV_8 dc_8 pm_8 an_8 (.ref cda_NoStep_init) ct_8 cc_NoStep_init) C_NoStep cda_NoStep_init cc_NoStep_init := ⟨⟨_, _, kV_8, dc_8, pm_8, an_8, ct_8, _, rfl, l_8, c_8⟩, ⟨_, _, _, _, _, _, cd1_NoStep_init, cd2_NoStep_init, cd3_NoStep_init⟩, ⟨_, _, _, cl1_NoStep_init⟩, topS⟩
  have FS_Single_row : FunS l.prog K "row" "Single.row" (defArgs s_Single_row) (defBody s_Single_row) (defScope s_Single_row) f_Single_row (PySem.W.ksFn "row" "Single.row" (defArgs s_Single_row) (defBody s_Single_row) (defScope s_Single_row) .none kV_13 dc_13 pm_13 an_13 (.ref cda_Single_row) ct_13 cc_Single_row) C_Single cda_Single_row cc_Single_row := ⟨⟨_, _, kV_13, dc_13, pm_13, an_13, ct_13, _, rfl, l_13, c_13⟩, ⟨_, _, _, _, _, _, cd1_Single_row, cd2_Single_row, cd3_Single_row⟩, ⟨_, _, _, cl1_Single_row⟩, topS⟩
  have FS_Many_row : FunS l.prog K "row" "Many.row" (defArgs s_Many_row) (defBody s_Many_row) (defScope s_Many_row) f_Many_row (PySem.W.ksFn "row" "Many.row" (defArgs s_Many_row) (defBody s_Many_row) (defScope s_Many_row) .none kV_25 dc_25 pm_25 an_25 (.ref cda_Many_row) ct_25 cc_Many_row) C_Many cda_Many_row cc_Many_row := ⟨⟨_, _, kV_25, dc_25, pm_25, an_25, ct_25, _, rfl, l_25, c_25⟩, ⟨_, _, _, _, _, _, cd1_Many_row, cd2_Many_row, cd3_Many_row⟩, ⟨_, _, _, cl1_Many_row⟩, topS⟩
  let a : Ad := { C_Steps := C_Steps, C_Doors := C_Doors, C_Part := C_Part, C_Single := C_Single, C_Many := C_Many, C_Repeated := C_Repeated, C_Unknown := C_Unknown, C_NoStep := C_NoStep, f_Repeated_init := f_Repeated_init, fd_Repeated_init := PySem.W.ksFn "__init__" "Repeated.__init__" (defArgs s_Repeated_init) (defBody s_Repeated_init) (defScope s_Repeated_init) .none kV_5 dc_5 pm_5 an_5 (.ref cda_Repeated_init) ct_5 cc_Repeated_init, cda_Repeated_init := cda_Repeated_init, cc_Repeated_init := cc_Repeated_init, f_Unknown_init := f_Unknown_init, fd_Unknown_init := PySem.W.ksFn "__init__" "Unknown.__init__" (defArgs s_Unknown_init) (defBody s_Unknown_init) (defScope s_Unknown_init) .none kV_6 dc_6 pm_6 an_6 (.ref cda_Unknown_init) ct_6 cc_Unknown_init, cda_Unknown_init := cda_Unknown_init, cc_Unknown_init := cc_Unknown_init, f_NoStep_init := f_NoStep_init, fd_NoStep_init := PySem.W.ksFn "__init__" "NoStep.__init__" (defArgs s_NoStep_init) (defBody s_NoStep_init) (defScope s_NoStep_init) .none kV_8 dc_8 pm_8 an_8 (.ref cda_NoStep_init) ct_8 cc_NoStep_init, cda_NoStep_init := cda_NoStep_init, cc_NoStep_init := cc_NoStep_init, f_Single_row := f_Single_row, fd_Single_row := PySem.W.ksFn "row" "Single.row" (defArgs s_Single_row) (defBody s_Single_row) (defScope s_Single_row) .none kV_13 dc_13 pm_13 an_13 (.ref cda_Single_row) ct_13 cc_Single_row, cda_Single_row := cda_Single_row, cc_Single_row := cc_Single_row, f_Many_row := f_Many_row, fd_Many_row := PySem.W.ksFn "row" "Many.row" (defArgs s_Many_row) (defBody s_Many_row) (defScope s_Many_row) .none kV_25 dc_25 pm_25 an_25 (.ref cda_Many_row) ct_25 cc_Many_row, cda_Many_row := cda_Many_row, cc_Many_row := cc_Many_row, f_Steps_init := f_Steps_init, fd_Steps_init := fdOf F_Steps_init, f_Steps_standings := f_Steps_standings, fd_Steps_standings := fdOf F_Steps_standings, f_Steps_allow := f_Steps_allow, fd_Steps_allow := fdOf F_Steps_allow, f_Steps_steps_from := f_Steps_steps_from, fd_Steps_steps_from := fdOf F_Steps_steps_from, f_Doors_init := f_Doors_init, fd_Doors_init := fdOf F_Doors_init, f_Doors_iter := f_Doors_iter, fd_Doors_iter := fdOf F_Doors_iter, f_Doors_getitem := f_Doors_getitem, fd_Doors_getitem := fdOf F_Doors_getitem, f_Doors_setitem := f_Doors_setitem, fd_Doors_setitem := fdOf F_Doors_setitem, f_without_repeats := f_without_repeats, fd_without_repeats := fdOf F_without_repeats, f_Part_init := f_Part_init, fd_Part_init := fdOf F_Part_init, f_Part_row := f_Part_row, fd_Part_row := fdOf F_Part_row, f_Part_filled := f_Part_filled, fd_Part_filled := fdOf F_Part_filled, f_Single_twin := f_Single_twin, fd_Single_twin := fdOf F_Single_twin, f_Many_twin := f_Many_twin, fd_Many_twin := fdOf F_Many_twin, f_law_pool := f_law_pool, fd_law_pool := fdOf F_law_pool, f_law_take := f_law_take, fd_law_take := fdOf F_law_take, f_law_base := f_law_base, fd_law_base := fdOf F_law_base, f_law_name := f_law_name, fd_law_name := fdOf F_law_name, f_law_some := f_law_some, fd_law_some := fdOf F_law_some, f_law_told := f_law_told, fd_law_told := fdOf F_law_told, f_law_filled := f_law_filled, fd_law_filled := fdOf F_law_filled, f_law_apart := f_law_apart, fd_law_apart := fdOf F_law_apart, f_law := f_law, fd_law := fdOf F_law }
  have T : Tx l.prog K mg a := {
    cl_Steps := ⟨pg_Steps, hd_Steps, po_Steps, sa_Steps⟩,
    is_Steps := ⟨⟨pg_Steps, hd_Steps, po_Steps, sa_Steps⟩, ha_Steps, hn, ht, hm_Steps⟩,
    mk_Steps := ⟨mk_Steps, a_14, i_14, kc_Steps⟩,
    mgC_Steps := PySem.W.mg_of X G aC_Steps,
    sf_Steps := sf_Steps,
    nf_Steps := nf_Steps,
    nfl_Steps := nfl_Steps,
    ki_Steps := kit_same,
    kl_Steps := kit_other ic_Steps ty_Steps sl_Steps rfl,
    kx_Single_Steps := kit_other ic_Steps ty_Steps sk_Single_Steps ne_Single_Steps,
    kx_Many_Steps := kit_other ic_Steps ty_Steps sk_Many_Steps ne_Many_Steps,
    na_Steps_order := na_Steps_order,
    na_Steps_leads := na_Steps_leads,
    cl_Doors := ⟨pg_Doors, hd_Doors, po_Doors, sa_Doors⟩,
    is_Doors := ⟨⟨pg_Doors, hd_Doors, po_Doors, sa_Doors⟩, ha_Doors, hn, ht, hm_Doors⟩,
    mk_Doors := ⟨mk_Doors, a_11, i_11, kc_Doors⟩,
    mgC_Doors := PySem.W.mg_of X G aC_Doors,
    sf_Doors := sf_Doors,
    nf_Doors := nf_Doors,
    nfl_Doors := nfl_Doors,
    ki_Doors := kit_same,
    kl_Doors := kit_other ic_Doors ty_Doors sl_Doors rfl,
    kx_Single_Doors := kit_other ic_Doors ty_Doors sk_Single_Doors ne_Single_Doors,
    kx_Many_Doors := kit_other ic_Doors ty_Doors sk_Many_Doors ne_Many_Doors,
    na_Doors_rows := na_Doors_rows,
    na_Doors_doors := na_Doors_doors,
    nq_Doors := nq_Doors,
    cl_Part := ⟨pg_Part, hd_Part, po_Part, sa_Part⟩,
    is_Part := ⟨⟨pg_Part, hd_Part, po_Part, sa_Part⟩, ha_Part, hn, ht, hm_Part⟩,
    mk_Part := ⟨mk_Part, a_16, i_16, kc_Part⟩,
    mgC_Part := PySem.W.mg_of X G aC_Part,
    sf_Part := sf_Part,
    nf_Part := nf_Part,
    nfl_Part := nfl_Part,
    ki_Part := kit_same,
    kl_Part := kit_other ic_Part ty_Part sl_Part rfl,
    kx_Single_Part := kit_other ic_Part ty_Part sk_Single_Part ne_Single_Part,
    kx_Many_Part := kit_other ic_Part ty_Part sk_Many_Part ne_Many_Part,
    na_Part_rows := na_Part_rows,
    na_Part_doors := na_Part_doors,
    na_Part_order := na_Part_order,
    na_Part_leads := na_Part_leads,
    na_Part_name := na_Part_name,
    at_Part_standings := h_Part_standings,
    at_Part_allow := h_Part_allow,
    at_Part_steps_from := h_Part_steps_from,
    at_Part_iter := h_Part_iter,
    at_Part_getitem := h_Part_getitem,
    at_Part_setitem := h_Part_setitem,
    nq_Part := nq_Part,
    cl_Single := ⟨pg_Single, hd_Single, po_Single, sa_Single⟩,
    is_Single := ⟨⟨pg_Single, hd_Single, po_Single, sa_Single⟩, ha_Single, hn, ht, hm_Single⟩,
    mk_Single := ⟨mk_Single, h_Single_init, i_16, kc_Single⟩,
    mgC_Single := PySem.W.mg_of X G aC_Single,
    sf_Single := sf_Single,
    nf_Single := nf_Single,
    nfl_Single := nfl_Single,
    ki_Single := kit_same,
    kl_Single := kit_other ic_Single ty_Single sl_Single rfl,
    kx_Many_Single := kit_other ic_Single ty_Single sk_Many_Single ne_Many_Single,
    na_Single_rows := na_Single_rows,
    na_Single_doors := na_Single_doors,
    na_Single_order := na_Single_order,
    na_Single_leads := na_Single_leads,
    na_Single_name := na_Single_name,
    at_Single_init := h_Single_init,
    at_Single_filled := h_Single_filled,
    at_Single_standings := h_Single_standings,
    at_Single_allow := h_Single_allow,
    at_Single_steps_from := h_Single_steps_from,
    at_Single_iter := h_Single_iter,
    at_Single_getitem := h_Single_getitem,
    at_Single_setitem := h_Single_setitem,
    nq_Single := nq_Single,
    cl_Many := ⟨pg_Many, hd_Many, po_Many, sa_Many⟩,
    is_Many := ⟨⟨pg_Many, hd_Many, po_Many, sa_Many⟩, ha_Many, hn, ht, hm_Many⟩,
    mk_Many := ⟨mk_Many, h_Many_init, i_16, kc_Many⟩,
    mgC_Many := PySem.W.mg_of X G aC_Many,
    sf_Many := sf_Many,
    nf_Many := nf_Many,
    nfl_Many := nfl_Many,
    ki_Many := kit_same,
    kl_Many := kit_other ic_Many ty_Many sl_Many rfl,
    kx_Single_Many := kit_other ic_Many ty_Many sk_Single_Many ne_Single_Many,
    na_Many_rows := na_Many_rows,
    na_Many_doors := na_Many_doors,
    na_Many_order := na_Many_order,
    na_Many_leads := na_Many_leads,
    na_Many_name := na_Many_name,
    at_Many_init := h_Many_init,
    at_Many_filled := h_Many_filled,
    at_Many_standings := h_Many_standings,
    at_Many_allow := h_Many_allow,
    at_Many_steps_from := h_Many_steps_from,
    at_Many_iter := h_Many_iter,
    at_Many_getitem := h_Many_getitem,
    at_Many_setitem := h_Many_setitem,
    nq_Many := nq_Many,
    ec_Repeated := ⟨⟨⟨_, _, _, _, _, _, _, _, _, _, _, _, _, _, _, lC_Repeated, rv_Repeated⟩, sa_Repeated, eb_Repeated, ty_Repeated, kc_Repeated⟩, su_Repeated, ve_Repeated, mr_Repeated, stat⟩,
    mgC_Repeated := PySem.W.mg_of X G aC_Repeated,
    xf_Repeated := ⟨ga_Repeated, gg_Repeated, eb_Repeated, hd_Repeated⟩,
    na_Repeated_name := na_Repeated_name,
    ec_Unknown := ⟨⟨⟨_, _, _, _, _, _, _, _, _, _, _, _, _, _, _, lC_Unknown, rv_Unknown⟩, sa_Unknown, eb_Unknown, ty_Unknown, kc_Unknown⟩, su_Unknown, ve_Unknown, mr_Unknown, stat⟩,
    mgC_Unknown := PySem.W.mg_of X G aC_Unknown,
    xf_Unknown := ⟨ga_Unknown, gg_Unknown, eb_Unknown, hd_Unknown⟩,
    na_Unknown_name := na_Unknown_name,
    ec_NoStep := ⟨⟨⟨_, _, _, _, _, _, _, _, _, _, _, _, _, _, _, lC_NoStep, rv_NoStep⟩, sa_NoStep, eb_NoStep, ty_NoStep, kc_NoStep⟩, su_NoStep, ve_NoStep, mr_NoStep, stat⟩,
    mgC_NoStep := PySem.W.mg_of X G aC_NoStep,
    xf_NoStep := ⟨ga_NoStep, gg_NoStep, eb_NoStep, hd_NoStep⟩,
    na_NoStep_before := na_NoStep_before,
    na_NoStep_after := na_NoStep_after,
    F_Repeated_init := FS_Repeated_init,
    b_Repeated_init := FS_Repeated_init.bindsS fun _ _ _ _ _ _ us hl => match us, hl with | [_, _], _ => rfl,
    at_Repeated_init := a_5,
    ti_Repeated_init := ti_Repeated_init,
    F_Unknown_init := FS_Unknown_init,
    b_Unknown_init := FS_Unknown_init.bindsS fun _ _ _ _ _ _ us hl => match us, hl with | [_, _], _ => rfl,
    at_Unknown_init := a_6,
    ti_Unknown_init := ti_Unknown_init,
    F_NoStep_init := FS_NoStep_init,
    b_NoStep_init := FS_NoStep_init.bindsS fun _ _ _ _ _ _ us hl => match us, hl with | [_, _, _], _ => rfl,
    at_NoStep_init := a_8,
    ti_NoStep_init := ti_NoStep_init,
    F_Single_row := FS_Single_row,
    b_Single_row := FS_Single_row.bindsS fun _ _ _ _ _ _ us hl => match us, hl with | [_], _ => rfl,
    at_Single_row := a_13,
    ti_Single_row := ti_Single_row,
    F_Many_row := FS_Many_row,
    b_Many_row := FS_Many_row.bindsS fun _ _ _ _ _ _ us hl => match us, hl with | [_], _ => rfl,
    at_Many_row := a_25,
    ti_Many_row := ti_Many_row,
    su_Single_row := ⟨su_Single_row, mr_Single_row, ic_Single, stat, beq_iff_eq.mp i_22, fi_Single_row⟩,
    me_Single_row := ⟨a_13, (by unfold PySem.W.isFn; rw [ti_Single_row]; rfl), k_13⟩,
    su_Many_row := ⟨su_Many_row, mr_Many_row, ic_Many, stat, beq_iff_eq.mp i_22, fi_Many_row⟩,
    me_Many_row := ⟨a_25, (by unfold PySem.W.isFn; rw [ti_Many_row]; rfl), k_25⟩,
    F_Steps_init := F_Steps_init,
    b_Steps_init := b_Steps_init,
    at_Steps_init := a_14,
    fn_Steps_init := i_14,
    F_Steps_standings := F_Steps_standings,
    b_Steps_standings := b_Steps_standings,
    at_Steps_standings := a_1,
    fn_Steps_standings := i_1,
    F_Steps_allow := F_Steps_allow,
    b_Steps_allow := b_Steps_allow,
    at_Steps_allow := a_9,
    fn_Steps_allow := i_9,
    F_Steps_steps_from := F_Steps_steps_from,
    b_Steps_steps_from := b_Steps_steps_from,
    at_Steps_steps_from := a_0,
    fn_Steps_steps_from := i_0,
    F_Doors_init := F_Doors_init,
    b_Doors_init := b_Doors_init,
    at_Doors_init := a_11,
    fn_Doors_init := i_11,
    F_Doors_iter := F_Doors_iter,
    b_Doors_iter := b_Doors_iter,
    at_Doors_iter := a_15,
    fn_Doors_iter := i_15,
    F_Doors_getitem := F_Doors_getitem,
    b_Doors_getitem := b_Doors_getitem,
    fi_Doors_getitem := fi_Doors_getitem,
    at_Doors_getitem := a_4,
    fn_Doors_getitem := i_4,
    F_Doors_setitem := F_Doors_setitem,
    b_Doors_setitem := b_Doors_setitem,
    at_Doors_setitem := a_3,
    fn_Doors_setitem := i_3,
    F_without_repeats := F_without_repeats,
    b_without_repeats := b_without_repeats,
    mg_without_repeats := PySem.W.mg_of X G a_2,
    F_Part_init := F_Part_init,
    b_Part_init := b_Part_init,
    at_Part_init := a_16,
    fn_Part_init := i_16,
    F_Part_row := F_Part_row,
    b_Part_row := b_Part_row,
    at_Part_row := a_22,
    fn_Part_row := i_22,
    F_Part_filled := F_Part_filled,
    b_Part_filled := b_Part_filled,
    at_Part_filled := a_10,
    fn_Part_filled := i_10,
    F_Single_twin := F_Single_twin,
    b_Single_twin := b_Single_twin,
    at_Single_twin := a_7,
    fn_Single_twin := i_7,
    F_Many_twin := F_Many_twin,
    b_Many_twin := b_Many_twin,
    at_Many_twin := a_17,
    fn_Many_twin := i_17,
    F_law_pool := F_law_pool,
    b_law_pool := b_law_pool,
    mg_law_pool := PySem.W.mg_of X G a_23,
    F_law_take := F_law_take,
    b_law_take := b_law_take,
    mg_law_take := PySem.W.mg_of X G a_21,
    F_law_base := F_law_base,
    b_law_base := b_law_base,
    mg_law_base := PySem.W.mg_of X G a_19,
    F_law_name := F_law_name,
    b_law_name := b_law_name,
    mg_law_name := PySem.W.mg_of X G a_24,
    F_law_some := F_law_some,
    b_law_some := b_law_some,
    mg_law_some := PySem.W.mg_of X G a_26,
    F_law_told := F_law_told,
    b_law_told := b_law_told,
    mg_law_told := PySem.W.mg_of X G a_20,
    F_law_filled := F_law_filled,
    b_law_filled := b_law_filled,
    mg_law_filled := PySem.W.mg_of X G a_12,
    F_law_apart := F_law_apart,
    b_law_apart := b_law_apart,
    mg_law_apart := PySem.W.mg_of X G a_18,
    F_law := F_law,
    b_law := b_law,
    mg_law := PySem.W.mg_of X G a_law,
    z_len := PySem.W.mg_none_of X G z_len,
    z_list := PySem.W.mg_none_of X G z_list,
    z_tuple := PySem.W.mg_none_of X G z_tuple,
    z_int := PySem.W.mg_none_of X G z_int,
    z_range := PySem.W.mg_none_of X G z_range,
    z_isinstance := PySem.W.mg_none_of X G z_isinstance,
    z_iter := PySem.W.mg_none_of X G z_iter,
    z_super := PySem.W.mg_none_of X G z_super,
    z_ValueError := PySem.W.mg_none_of X G z_ValueError,
    of_Steps_init := ⟨of_Steps_init, rfl⟩,
    cd_Steps := ⟨cd1_Steps, cd2x_Steps⟩,
    of_Doors_init := ⟨of_Doors_init, rfl⟩,
    cd_Doors := ⟨cd1_Doors, cd2x_Doors⟩ }
  exact ⟨_, fun s v => F_law.bindsA (ps := ["_law_script"]) (fun _ _ _ _ _ _ us hl => match us, hl with | [_], _ => rfl) s [v] rfl, fun base _ _ => ok_law T⟩
end K08
theorem PySem.Challenge.cw_soundyard_k08_rows_and_twins_holds : PySem.Challenge.rw_soundyard_k08_rows_and_twins.Holds :=
  K08.early @K08.all_mk
