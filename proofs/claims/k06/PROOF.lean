import PyProof.Rows.All
import Wide.All
import OpenK.AllK
import Wide.FinOn
import HandS.ForMost
import HandS.ForExc
import HandS.Evl
import HandS.Wide
import HandS.Slots
import HandS.SlotsOwn
import HandS.Defaults
import HandS.ExcInit
import HandS.IsInst
import HandS.ExcCtx
import HandS.HotCalls
import HandS.ExcInitHot
import HandS.ExcIs
import HandS.ExcField
import HandS.Style
import HandS.TupSets
import HandS.SortRule
import HandS.Property
import HandS.Star
import HandS.WideBits
import HandS.ClsMeth
import KE.DatumOrd
import HandS.Deep
import HandS.Text
import HandS.Codes
import HandS.StrMore
import HandS.FStr
import HandS.SetBool
import HandS.More
import HandS.Flt
import KE.KUnpackStar
import HandS.OwnEq
import HandS.Flow
import HandS.IterVal
import KE.KOwnIter
import HandS.OwnIter
import HandS.Zip
import HandS.Conv
import PyProof.FString3
import PyProof.FactsAll.str
import KE.OsRunLaw
import PySem.Challenge.RW_evenpen_k06_corners_of_a_pen
set_option Elab.async false
set_option linter.all false
set_option maxRecDepth 100000
namespace Ev
open PySem L2
def topS (i : Nat) : Stmt := PySem.Challenge.pw_evenpen_k06_corners_of_a_pen.main.body.getD i (.Pass ⟨0, 0, 0, 0⟩)
def spLawE (K : PySem.W.Frag) : Sp := fun vs H Q _ => ∃ (a : Addr) (ns : List Int), vs = [.ref a] ∧ ns.length ≤ 63 ∧ SqL K H a (ns.map V.int) ∧ ∀ H', Q (.bl true) H'
theorem walkE {l : PySem.W.OpenLaw} {q : Program} {loose : List Str} {XP : (Str → Option Value) → Heap → Prop} {YP : World → Heap → Prop} {d : DefRec} {K : Params → PySem.W.Frag} (hn : l.most = some 63) (hdf : d.params.defaults = [])
    (hY : ∀ (w : World) (h : Heap), YP w h → (K w.params).In h) (F : ∀ (w : World) (mg : Str → Option Value) (fa : Addr) (h : Heap), (K w.params).In h → h.Ns mainGlobals mg → mg d.name = some (.ref fa) → ∃ fd : FuncData, (∀ (s : Shared) (u : Value), BindsTo s fd ⟨[u], []⟩ [("_law_script", u)]) ∧
      ∀ base : Heap, (K w.params).In base → base.Ns mainGlobals mg → FnOk l.prog w (K w.params) mg base (L2N.CX l.prog w) 12 fa fd ["_law_script"] (spLawE (K w.params))) : PySem.W.WalkO q loose XP YP l.row.toRowW d [] (fun f vs => PySem.call f vs) :=
  L2.walk_of (n := 63) (k := 12) (x := "_law_script") (CX := fun w => L2N.CX l.prog w) (sp := fun w => spLawE (K w.params)) hn (by decide) hdf ⟨rfl, by decide, by decide⟩ hY F (fun _ _ a ns hl _ hS => ⟨a, ns, rfl, hl, hS, fun _ => rfl⟩) fun _ H s e s' z => by
    obtain ⟨_, _, _, _, _, _, _, _, _, _, _, _, z⟩ := z
    exact z
def Facts : Prop := ∀ {l : PySem.W.OpenLaw} {w : World} {K : PySem.W.Frag} {h : Heap} {mg : Str → Option Value} {fa : Addr} (X : K.In h) (G : h.Ns mainGlobals mg) (hfa : mg "law" = some (.ref fa))
    {C pX pY pO : Addr} {iX iY iO : Nat} {e_BadOver N_BadOver : Addr} {nm_BadOver q_BadOver : Str} {bs_BadOver : List Value} {sn_BadOver : List Str} {sub_BadOver : List Value} {ab_BadOver : Bool} {col_BadOver : Option Bool}
    {dd_BadOver : Option Addr} {m0_BadOver m1_BadOver m2_BadOver m3_BadOver m4_BadOver : Option Value} {bm_BadOver : List Value} {A_iBadOver : Addr} {od_iBadOver an_iBadOver : Option Addr} {sl_iBadOver : Array (Option Value)}
    {oc_iBadOver kV_iBadOver dc_iBadOver pm_iBadOver cd_iBadOver ct_iBadOver : Value} {A_gcd : Addr} {od_gcd an_gcd : Option Addr} {sl_gcd : Array (Option Value)} {oc_gcd kV_gcd dc_gcd pm_gcd cd_gcd ct_gcd : Value}
    {A_red : Addr} {od_red an_red : Option Addr} {sl_red : Array (Option Value)} {oc_red kV_red dc_red pm_red cd_red ct_red : Value} {A_pinit : Addr} {od_pinit an_pinit : Option Addr} {sl_pinit : Array (Option Value)}
    {oc_pinit kV_pinit dc_pinit pm_pinit cd_pinit ct_pinit : Value} {T_pinit : Addr} {td_pinit : Option Addr} {tl_pinit : Array (Option Value)} {tc_pinit : Value} {tn_pinit : Nat} {tk0_pinit : Tok} {A_peq : Addr}
    {od_peq an_peq : Option Addr} {sl_peq : Array (Option Value)} {oc_peq kV_peq dc_peq pm_peq cd_peq ct_peq : Value} {e_BadCount N_BadCount : Addr} {nm_BadCount q_BadCount : Str} {bs_BadCount : List Value}
    {sn_BadCount : List Str} {sub_BadCount : List Value} {ab_BadCount : Bool} {col_BadCount : Option Bool} {dd_BadCount : Option Addr} {m0_BadCount m1_BadCount m2_BadCount m3_BadCount m4_BadCount : Option Value}
    {bm_BadCount : List Value} {A_iBadCount : Addr} {od_iBadCount an_iBadCount : Option Addr} {sl_iBadCount : Array (Option Value)} {oc_iBadCount kV_iBadCount dc_iBadCount pm_iBadCount cd_iBadCount ct_iBadCount : Value}
    {e_Bent N_Bent : Addr} {nm_Bent q_Bent : Str} {bs_Bent : List Value} {sn_Bent : List Str} {sub_Bent : List Value} {ab_Bent : Bool} {col_Bent : Option Bool} {dd_Bent : Option Addr} {m0_Bent m1_Bent m2_Bent m3_Bent m4_Bent : Option Value}
    {bm_Bent : List Value} {A_iBent : Addr} {od_iBent an_iBent : Option Addr} {sl_iBent : Array (Option Value)} {oc_iBent kV_iBent dc_iBent pm_iBent cd_iBent ct_iBent : Value} {A_cmult : Addr} {od_cmult an_cmult : Option Addr}
    {sl_cmult : Array (Option Value)} {oc_cmult kV_cmult dc_cmult pm_cmult cd_cmult ct_cmult : Value} {A_commonover : Addr} {od_commonover an_commonover : Option Addr} {sl_commonover : Array (Option Value)}
    {oc_commonover kV_commonover dc_commonover pm_commonover cd_commonover ct_commonover : Value} {A_placesof : Addr} {od_placesof an_placesof : Option Addr} {sl_placesof : Array (Option Value)} {oc_placesof kV_placesof dc_placesof pm_placesof cd_placesof ct_placesof : Value}
    {A_turn : Addr} {od_turn an_turn : Option Addr} {sl_turn : Array (Option Value)} {oc_turn kV_turn dc_turn pm_turn cd_turn ct_turn : Value} {A_isbent : Addr} {od_isbent an_isbent : Option Addr} {sl_isbent : Array (Option Value)}
    {oc_isbent kV_isbent dc_isbent pm_isbent cd_isbent ct_isbent : Value} {O_Pen : Addr} {tk_most : Tok} {A_ordered : Addr} {od_ordered an_ordered : Option Addr} {sl_ordered : Array (Option Value)} {oc_ordered kV_ordered dc_ordered pm_ordered cd_ordered ct_ordered : Value}
    {A_peninit : Addr} {od_peninit an_peninit : Option Addr} {sl_peninit : Array (Option Value)} {oc_peninit kV_peninit dc_peninit pm_peninit cd_peninit ct_peninit : Value} {p_penget : Addr} {rs_penget : List Value}
    {A_penget : Addr} {od_penget an_penget : Option Addr} {sl_penget : Array (Option Value)} {oc_penget kV_penget dc_penget pm_penget cd_penget ct_penget : Value} {v_set : Value} {rs_set : List Value} {A_penset : Addr}
    {od_penset an_penset : Option Addr} {sl_penset : Array (Option Value)} {oc_penset kV_penset dc_penset pm_penset cd_penset ct_penset : Value} {A_penchange : Addr} {od_penchange an_penchange : Option Addr}
    {sl_penchange : Array (Option Value)} {oc_penchange kV_penchange dc_penchange pm_penchange cd_penchange ct_penchange : Value} {A_peneq : Addr} {od_peneq an_peneq : Option Addr} {sl_peneq : Array (Option Value)}
    {oc_peneq kV_peneq dc_peneq pm_peneq cd_peneq ct_peneq : Value} {A_iterPen : Addr} {od_iterPen an_iterPen : Option Addr} {sl_iterPen : Array (Option Value)} {oc_iterPen kV_iterPen dc_iterPen pm_iterPen cd_iterPen ct_iterPen : Value}
    {A_nth : Addr} {od_nth an_nth : Option Addr} {sl_nth : Array (Option Value)} {oc_nth kV_nth dc_nth pm_nth cd_nth ct_nth : Value} {A_draws : Addr} {od_draws an_draws : Option Addr} {sl_draws : Array (Option Value)}
    {oc_draws kV_draws dc_draws pm_draws cd_draws ct_draws : Value} {A_same : Addr} {od_same an_same : Option Addr} {sl_same : Array (Option Value)} {oc_same kV_same dc_same pm_same cd_same ct_same : Value}
    {A_lgcd : Addr} {od_lgcd an_lgcd : Option Addr} {sl_lgcd : Array (Option Value)} {oc_lgcd kV_lgcd dc_lgcd pm_lgcd cd_lgcd ct_lgcd : Value} {A_over : Addr} {od_over an_over : Option Addr} {sl_over : Array (Option Value)}
    {oc_over kV_over dc_over pm_over cd_over ct_over : Value} {A_interms : Addr} {od_interms an_interms : Option Addr} {sl_interms : Array (Option Value)} {oc_interms kV_interms dc_interms pm_interms cd_interms ct_interms : Value}
    {A_ispoint : Addr} {od_ispoint an_ispoint : Option Addr} {sl_ispoint : Array (Option Value)} {oc_ispoint kV_ispoint dc_ispoint pm_ispoint cd_ispoint ct_ispoint : Value} {A_lturn : Addr} {od_lturn an_lturn : Option Addr}
    {sl_lturn : Array (Option Value)} {oc_lturn kV_lturn dc_lturn pm_lturn cd_lturn ct_lturn : Value} {A_halfhull : Addr} {od_halfhull an_halfhull : Option Addr} {sl_halfhull : Array (Option Value)} {oc_halfhull kV_halfhull dc_halfhull pm_halfhull cd_halfhull ct_halfhull : Value}
    {A_hullof : Addr} {od_hullof an_hullof : Option Addr} {sl_hullof : Array (Option Value)} {oc_hullof kV_hullof dc_hullof pm_hullof cd_hullof ct_hullof : Value} {A_drawspots : Addr} {od_drawspots an_drawspots : Option Addr}
    {sl_drawspots : Array (Option Value)} {oc_drawspots kV_drawspots dc_drawspots pm_drawspots cd_drawspots ct_drawspots : Value} {A_drawshape : Addr} {od_drawshape an_drawshape : Option Addr} {sl_drawshape : Array (Option Value)}
    {oc_drawshape kV_drawshape dc_drawshape pm_drawshape cd_drawshape ct_drawshape : Value} {A_made : Addr} {od_made an_made : Option Addr} {sl_made : Array (Option Value)} {oc_made kV_made dc_made pm_made cd_made ct_made : Value}
    {A_arepoints : Addr} {od_arepoints an_arepoints : Option Addr} {sl_arepoints : Array (Option Value)} {oc_arepoints kV_arepoints dc_arepoints pm_arepoints cd_arepoints ct_arepoints : Value} {A_shows : Addr}
    {od_shows an_shows : Option Addr} {sl_shows : Array (Option Value)} {oc_shows kV_shows dc_shows pm_shows cd_shows ct_shows : Value} {A_law : Addr} {od_law an_law : Option Addr} {sl_law : Array (Option Value)}
    {oc_law kV_law dc_law pm_law cd_law ct_law : Value}
    (z_abs : PySem.W.nsIn K mainGlobals "abs" = some none)
    (z_int : PySem.W.nsIn K mainGlobals "int" = some none)
    (z_len : PySem.W.nsIn K mainGlobals "len" = some none)
    (z_range : PySem.W.nsIn K mainGlobals "range" = some none)
    (z_isinstance : PySem.W.nsIn K mainGlobals "isinstance" = some none)
    (z_bool : PySem.W.nsIn K mainGlobals "bool" = some none)
    (z_str : PySem.W.nsIn K mainGlobals "str" = some none)
    (z_tuple : PySem.W.nsIn K mainGlobals "tuple" = some none)
    (z_list : PySem.W.nsIn K mainGlobals "list" = some none)
    (z_max : PySem.W.nsIn K mainGlobals "max" = some none)
    (z_min : PySem.W.nsIn K mainGlobals "min" = some none)
    (z_enumerate : PySem.W.nsIn K mainGlobals "enumerate" = some none)
    (z_sorted : PySem.W.nsIn K mainGlobals "sorted" = some none)
    (z_set : PySem.W.nsIn K mainGlobals "set" = some none)
    (z_sum : PySem.W.nsIn K mainGlobals "sum" = some none)
    (z_all : PySem.W.nsIn K mainGlobals "all" = some none)
    (z_any : PySem.W.nsIn K mainGlobals "any" = some none)
    (z_zip : PySem.W.nsIn K mainGlobals "zip" = some none)
    (z_iter : PySem.W.nsIn K mainGlobals "iter" = some none)
    (z_next : PySem.W.nsIn K mainGlobals "next" = some none)
    (z_divmod : PySem.W.nsIn K mainGlobals "divmod" = some none)
    (z_valueerror : PySem.W.nsIn K mainGlobals "ValueError" = some none)
    (cn : PySem.W.specialIn K (.builtin "object.__class__") "__get__" = some (some (.builtin "getset_descriptor.__get__")))
    (ctk : PySem.W.takesIn K (.builtin "object.__class__") = some true)
    (a_Point : PySem.W.nsIn K mainGlobals "Point" = some (some (.ref C)))
    (pg : PySem.W.plainGet K C Str.empty = true)
    (ic : PySem.W.isClsIn K C = true)
    (po : PySem.W.plainOver K C = true)
    (tyP : PySem.W.typeIn K (.ref C) = some (.type "type"))
    (saP : PySem.W.findIn K (.ref C) "__setattr__" = some (some (.builtin "object.__setattr__")))
    (caP : PySem.W.findIn K (.ref C) "__class__" = some (some (.builtin "object.__class__")))
    (moP : PySem.W.mroIn K C (.type "object") = some true)
    (sAX : PySem.W.findIn K (.ref C) "x" = some (some (.ref pX)))
    (sGX : PySem.W.specialIn K (.ref pX) "__get__" = some (some (.builtin "member_descriptor.__get__")))
    (sTX : PySem.W.takesIn K (.ref pX) = some true)
    (sYX : PySem.W.typeIn K (.ref pX) = some (.type "member_descriptor"))
    (sIX : PySem.W.slotIn K pX C = some iX)
    (sLX : iX < 1000)
    (sAY : PySem.W.findIn K (.ref C) "y" = some (some (.ref pY)))
    (sGY : PySem.W.specialIn K (.ref pY) "__get__" = some (some (.builtin "member_descriptor.__get__")))
    (sTY : PySem.W.takesIn K (.ref pY) = some true)
    (sYY : PySem.W.typeIn K (.ref pY) = some (.type "member_descriptor"))
    (sIY : PySem.W.slotIn K pY C = some iY)
    (sLY : iY < 1000)
    (sAO : PySem.W.findIn K (.ref C) "over" = some (some (.ref pO)))
    (sGO : PySem.W.specialIn K (.ref pO) "__get__" = some (some (.builtin "member_descriptor.__get__")))
    (sTO : PySem.W.takesIn K (.ref pO) = some true)
    (sYO : PySem.W.typeIn K (.ref pO) = some (.type "member_descriptor"))
    (sIO : PySem.W.slotIn K pO C = some iO)
    (sLO : iO < 1000)
    (nXY : iX ≠ iY)
    (nXO : iX ≠ iO)
    (nYO : iY ≠ iO)
    (a_BadOver : PySem.W.nsIn K mainGlobals "BadOver" = some (some (.ref e_BadOver)))
    (x_BadOver : K.lookup e_BadOver = some (excClassObj nm_BadOver q_BadOver e_BadOver N_BadOver bs_BadOver bm_BadOver true sn_BadOver sub_BadOver ab_BadOver col_BadOver dd_BadOver m0_BadOver m1_BadOver m2_BadOver m3_BadOver m4_BadOver "ValueError.__new__"))
    (r_BadOver : PySem.HandSPX.refsVE bm_BadOver = true)
    (sa_BadOver : PySem.W.findIn K (.ref e_BadOver) "__setattr__" = some (some (.builtin "object.__setattr__")))
    (ga_BadOver : PySem.W.findIn K (.ref e_BadOver) "__getattribute__" = some (some (.builtin "BaseException.__getattribute__")))
    (gg_BadOver : PySem.W.findIn K (.ref e_BadOver) "__getattr__" = some none)
    (ca_BadOver : PySem.W.findIn K (.ref e_BadOver) "__class__" = some (some (.builtin "object.__class__")))
    (sx_BadOver : PySem.W.subIn K (.ref e_BadOver) (.type "BaseException") = some true)
    (ty_BadOver : PySem.W.typeIn K (.ref e_BadOver) = some (.type "type"))
    (kc_BadOver : PySem.W.keepIn K (.ref e_BadOver) = true)
    (hd_BadOver : PySem.W.hasDictIn K e_BadOver = true)
    (ic_BadOver : PySem.W.isClsIn K e_BadOver = true)
    (ss_BadOver : PySem.W.subIn K (.ref e_BadOver) (.ref e_BadOver) = some true)
    (mo_BadOver : PySem.W.mroIn K e_BadOver (.type "object") = some true)
    (nf_BadOver_over : PySem.W.findIn K (.ref e_BadOver) "over" = some none)
    (a_iBadOver : PySem.W.findIn K (.ref e_BadOver) "__init__" = some (some (.ref A_iBadOver)))
    (tf_iBadOver : PySem.W.typeIn K (.ref A_iBadOver) = some (.type "function"))
    (l_iBadOver : K.lookup A_iBadOver = some ⟨oc_iBadOver, od_iBadOver, .func (PySem.W.fnOf "__init__" "BadOver.__init__" (defArgs (inClass (topS 3) 0)) (defBody (inClass (topS 3) 0)) (defScope (inClass (topS 3) 0)) .none kV_iBadOver dc_iBadOver pm_iBadOver an_iBadOver cd_iBadOver ct_iBadOver), sl_iBadOver⟩)
    (c_iBadOver : PySem.W.codeIn K cd_iBadOver "BadOver.__init__" = true)
    (k_iBadOver : PySem.W.keepIn K (.ref A_iBadOver) = true)
    (a_gcd : PySem.W.nsIn K mainGlobals "common_divisor" = some (some (.ref A_gcd)))
    (l_gcd : K.lookup A_gcd = some ⟨oc_gcd, od_gcd, .func (PySem.W.fnOf "common_divisor" "common_divisor" (defArgs (topS 10)) (defBody (topS 10)) (defScope (topS 10)) .none kV_gcd dc_gcd pm_gcd an_gcd cd_gcd ct_gcd), sl_gcd⟩)
    (c_gcd : PySem.W.codeIn K cd_gcd "common_divisor" = true)
    (k_gcd : PySem.W.keepIn K (.ref A_gcd) = true)
    (a_red : PySem.W.nsIn K mainGlobals "reduced" = some (some (.ref A_red)))
    (l_red : K.lookup A_red = some ⟨oc_red, od_red, .func (PySem.W.fnOf "reduced" "reduced" (defArgs (topS 12)) (defBody (topS 12)) (defScope (topS 12)) .none kV_red dc_red pm_red an_red cd_red ct_red), sl_red⟩)
    (c_red : PySem.W.codeIn K cd_red "reduced" = true)
    (k_red : PySem.W.keepIn K (.ref A_red) = true)
    (a_pinit : PySem.W.findIn K (.ref C) "__init__" = some (some (.ref A_pinit)))
    (i_pinit : PySem.W.isFn K (.ref A_pinit) = true)
    (mkP : PySem.W.makesIn K C = true)
    (kcP : PySem.W.keepIn K (.ref C) = true)
    (l_pinit : K.lookup A_pinit = some ⟨oc_pinit, od_pinit, .func (PySem.W.fnOf "__init__" "Point.__init__" (defArgs (inClass (topS 14) 1)) (defBody (inClass (topS 14) 1)) (defScope (inClass (topS 14) 1)) (.ref T_pinit) kV_pinit dc_pinit pm_pinit an_pinit cd_pinit ct_pinit), sl_pinit⟩)
    (c_pinit : PySem.W.codeIn K cd_pinit "Point.__init__" = true)
    (k_pinit : PySem.W.keepIn K (.ref A_pinit) = true)
    (t_pinit : K.lookup T_pinit = some ⟨tc_pinit, td_pinit, .seq ([Value.int 1 tk0_pinit] : List Value).toArray tn_pinit, tl_pinit⟩)
    (nfP : PySem.W.notFirst K C (.ref C) = true)
    (tt : PySem.W.subIn K (.type "tuple") (.ref C) = some false)
    (a_peq : PySem.W.findIn K (.ref C) "__eq__" = some (some (.ref A_peq)))
    (i_peq : PySem.W.isFn K (.ref A_peq) = true)
    (l_peq : K.lookup A_peq = some ⟨oc_peq, od_peq, .func (PySem.W.fnOf "__eq__" "Point.__eq__" (defArgs (inClass (topS 14) 3)) (defBody (inClass (topS 14) 3)) (defScope (inClass (topS 14) 3)) .none kV_peq dc_peq pm_peq an_peq cd_peq ct_peq), sl_peq⟩)
    (c_peq : PySem.W.codeIn K cd_peq "Point.__eq__" = true)
    (k_peq : PySem.W.keepIn K (.ref A_peq) = true)
    (a_BadCount : PySem.W.nsIn K mainGlobals "BadCount" = some (some (.ref e_BadCount)))
    (x_BadCount : K.lookup e_BadCount = some (excClassObj nm_BadCount q_BadCount e_BadCount N_BadCount bs_BadCount bm_BadCount true sn_BadCount sub_BadCount ab_BadCount col_BadCount dd_BadCount m0_BadCount m1_BadCount m2_BadCount m3_BadCount m4_BadCount "ValueError.__new__"))
    (r_BadCount : PySem.HandSPX.refsVE bm_BadCount = true)
    (sa_BadCount : PySem.W.findIn K (.ref e_BadCount) "__setattr__" = some (some (.builtin "object.__setattr__")))
    (ga_BadCount : PySem.W.findIn K (.ref e_BadCount) "__getattribute__" = some (some (.builtin "BaseException.__getattribute__")))
    (gg_BadCount : PySem.W.findIn K (.ref e_BadCount) "__getattr__" = some none)
    (ca_BadCount : PySem.W.findIn K (.ref e_BadCount) "__class__" = some (some (.builtin "object.__class__")))
    (sx_BadCount : PySem.W.subIn K (.ref e_BadCount) (.type "BaseException") = some true)
    (ty_BadCount : PySem.W.typeIn K (.ref e_BadCount) = some (.type "type"))
    (kc_BadCount : PySem.W.keepIn K (.ref e_BadCount) = true)
    (hd_BadCount : PySem.W.hasDictIn K e_BadCount = true)
    (ic_BadCount : PySem.W.isClsIn K e_BadCount = true)
    (ss_BadCount : PySem.W.subIn K (.ref e_BadCount) (.ref e_BadCount) = some true)
    (mo_BadCount : PySem.W.mroIn K e_BadCount (.type "object") = some true)
    (nf_BadCount_count : PySem.W.findIn K (.ref e_BadCount) "count" = some none)
    (a_iBadCount : PySem.W.findIn K (.ref e_BadCount) "__init__" = some (some (.ref A_iBadCount)))
    (tf_iBadCount : PySem.W.typeIn K (.ref A_iBadCount) = some (.type "function"))
    (l_iBadCount : K.lookup A_iBadCount = some ⟨oc_iBadCount, od_iBadCount, .func (PySem.W.fnOf "__init__" "BadCount.__init__" (defArgs (inClass (topS 5) 0)) (defBody (inClass (topS 5) 0)) (defScope (inClass (topS 5) 0)) .none kV_iBadCount dc_iBadCount pm_iBadCount an_iBadCount cd_iBadCount ct_iBadCount), sl_iBadCount⟩)
    (c_iBadCount : PySem.W.codeIn K cd_iBadCount "BadCount.__init__" = true)
    (k_iBadCount : PySem.W.keepIn K (.ref A_iBadCount) = true)
    (a_Bent : PySem.W.nsIn K mainGlobals "Bent" = some (some (.ref e_Bent)))
    (x_Bent : K.lookup e_Bent = some (excClassObj nm_Bent q_Bent e_Bent N_Bent bs_Bent bm_Bent true sn_Bent sub_Bent ab_Bent col_Bent dd_Bent m0_Bent m1_Bent m2_Bent m3_Bent m4_Bent "ValueError.__new__"))
    (r_Bent : PySem.HandSPX.refsVE bm_Bent = true)
    (sa_Bent : PySem.W.findIn K (.ref e_Bent) "__setattr__" = some (some (.builtin "object.__setattr__")))
    (ga_Bent : PySem.W.findIn K (.ref e_Bent) "__getattribute__" = some (some (.builtin "BaseException.__getattribute__")))
    (gg_Bent : PySem.W.findIn K (.ref e_Bent) "__getattr__" = some none)
    (ca_Bent : PySem.W.findIn K (.ref e_Bent) "__class__" = some (some (.builtin "object.__class__")))
    (sx_Bent : PySem.W.subIn K (.ref e_Bent) (.type "BaseException") = some true)
    (ty_Bent : PySem.W.typeIn K (.ref e_Bent) = some (.type "type"))
    (kc_Bent : PySem.W.keepIn K (.ref e_Bent) = true)
    (hd_Bent : PySem.W.hasDictIn K e_Bent = true)
    (ic_Bent : PySem.W.isClsIn K e_Bent = true)
    (ss_Bent : PySem.W.subIn K (.ref e_Bent) (.ref e_Bent) = some true)
    (mo_Bent : PySem.W.mroIn K e_Bent (.type "object") = some true)
    (nf_Bent_at : PySem.W.findIn K (.ref e_Bent) "at" = some none)
    (a_iBent : PySem.W.findIn K (.ref e_Bent) "__init__" = some (some (.ref A_iBent)))
    (tf_iBent : PySem.W.typeIn K (.ref A_iBent) = some (.type "function"))
    (l_iBent : K.lookup A_iBent = some ⟨oc_iBent, od_iBent, .func (PySem.W.fnOf "__init__" "Bent.__init__" (defArgs (inClass (topS 6) 0)) (defBody (inClass (topS 6) 0)) (defScope (inClass (topS 6) 0)) .none kV_iBent dc_iBent pm_iBent an_iBent cd_iBent ct_iBent), sl_iBent⟩)
    (c_iBent : PySem.W.codeIn K cd_iBent "Bent.__init__" = true)
    (k_iBent : PySem.W.keepIn K (.ref A_iBent) = true)
    (a_cmult : PySem.W.nsIn K mainGlobals "common_multiple" = some (some (.ref A_cmult)))
    (l_cmult : K.lookup A_cmult = some ⟨oc_cmult, od_cmult, .func (PySem.W.fnOf "common_multiple" "common_multiple" (defArgs (topS 11)) (defBody (topS 11)) (defScope (topS 11)) .none kV_cmult dc_cmult pm_cmult an_cmult cd_cmult ct_cmult), sl_cmult⟩)
    (c_cmult : PySem.W.codeIn K cd_cmult "common_multiple" = true)
    (k_cmult : PySem.W.keepIn K (.ref A_cmult) = true)
    (a_commonover : PySem.W.nsIn K mainGlobals "common_over" = some (some (.ref A_commonover)))
    (l_commonover : K.lookup A_commonover = some ⟨oc_commonover, od_commonover, .func (PySem.W.fnOf "common_over" "common_over" (defArgs (topS 18)) (defBody (topS 18)) (defScope (topS 18)) .none kV_commonover dc_commonover pm_commonover an_commonover cd_commonover ct_commonover), sl_commonover⟩)
    (c_commonover : PySem.W.codeIn K cd_commonover "common_over" = true)
    (k_commonover : PySem.W.keepIn K (.ref A_commonover) = true)
    (a_placesof : PySem.W.nsIn K mainGlobals "places_of" = some (some (.ref A_placesof)))
    (l_placesof : K.lookup A_placesof = some ⟨oc_placesof, od_placesof, .func (PySem.W.fnOf "places_of" "places_of" (defArgs (topS 19)) (defBody (topS 19)) (defScope (topS 19)) .none kV_placesof dc_placesof pm_placesof an_placesof cd_placesof ct_placesof), sl_placesof⟩)
    (c_placesof : PySem.W.codeIn K cd_placesof "places_of" = true)
    (k_placesof : PySem.W.keepIn K (.ref A_placesof) = true)
    (a_turn : PySem.W.nsIn K mainGlobals "turn" = some (some (.ref A_turn)))
    (l_turn : K.lookup A_turn = some ⟨oc_turn, od_turn, .func (PySem.W.fnOf "turn" "turn" (defArgs (topS 20)) (defBody (topS 20)) (defScope (topS 20)) .none kV_turn dc_turn pm_turn an_turn cd_turn ct_turn), sl_turn⟩)
    (c_turn : PySem.W.codeIn K cd_turn "turn" = true)
    (k_turn : PySem.W.keepIn K (.ref A_turn) = true)
    (a_isbent : PySem.W.nsIn K mainGlobals "is_bent" = some (some (.ref A_isbent)))
    (l_isbent : K.lookup A_isbent = some ⟨oc_isbent, od_isbent, .func (PySem.W.fnOf "is_bent" "is_bent" (defArgs (topS 24)) (defBody (topS 24)) (defScope (topS 24)) .none kV_isbent dc_isbent pm_isbent an_isbent cd_isbent ct_isbent), sl_isbent⟩)
    (c_isbent : PySem.W.codeIn K cd_isbent "is_bent" = true)
    (k_isbent : PySem.W.keepIn K (.ref A_isbent) = true)
    (a_Pen : PySem.W.nsIn K mainGlobals "Pen" = some (some (.ref O_Pen)))
    (pg_Pen : PySem.W.plainGet K O_Pen Str.empty = true)
    (hd_Pen : PySem.W.hasDictIn K O_Pen = true)
    (po_Pen : PySem.W.plainOver K O_Pen = true)
    (sa_Pen : PySem.W.findIn K (.ref O_Pen) "__setattr__" = some (some (.builtin "object.__setattr__")))
    (ca_Pen : PySem.W.findIn K (.ref O_Pen) "__class__" = some (some (.builtin "object.__class__")))
    (mo_Pen : PySem.W.mroIn K O_Pen (.type "object") = some true)
    (nf_Pen__corners : PySem.W.findIn K (.ref O_Pen) "_corners" = some none)
    (ns_any : PySem.W.nsIn K cStatics "thirdparty.any" = some none)
    (ga_type : PySem.W.findIn K (.type "type") "__getattribute__" = some (some (.builtin "type.__getattribute__")))
    (st_type : PySem.W.subIn K (.type "type") (.type "type") = some true)
    (ty_Pen : PySem.W.typeIn K (.ref O_Pen) = some (.type "type"))
    (ga_Pen : PySem.W.specialIn K (.ref O_Pen) "__getattribute__" = some (some (.builtin "type.__getattribute__")))
    (ct_type : PySem.W.findIn K (.type "type") "MOST" = some none)
    (cf_Pen : PySem.W.findIn K (.ref O_Pen) "MOST" = some (some (.int 64 tk_most)))
    (a_ordered : PySem.W.nsIn K mainGlobals "ordered" = some (some (.ref A_ordered)))
    (l_ordered : K.lookup A_ordered = some ⟨oc_ordered, od_ordered, .func (PySem.W.fnOf "ordered" "ordered" (defArgs (topS 25)) (defBody (topS 25)) (defScope (topS 25)) .none kV_ordered dc_ordered pm_ordered an_ordered cd_ordered ct_ordered), sl_ordered⟩)
    (c_ordered : PySem.W.codeIn K cd_ordered "ordered" = true)
    (k_ordered : PySem.W.keepIn K (.ref A_ordered) = true)
    (a_peninit : PySem.W.findIn K (.ref O_Pen) "__init__" = some (some (.ref A_peninit)))
    (i_peninit : PySem.W.isFn K (.ref A_peninit) = true)
    (mk_peninit : PySem.W.makesIn K O_Pen = true)
    (kc_peninit : PySem.W.keepIn K (.ref O_Pen) = true)
    (l_peninit : K.lookup A_peninit = some ⟨oc_peninit, od_peninit, .func (PySem.W.fnOf "__init__" "Pen.__init__" (defArgs (inClass (topS 26) 1)) (defBody (inClass (topS 26) 1)) (defScope (inClass (topS 26) 1)) .none kV_peninit dc_peninit pm_peninit an_peninit cd_peninit ct_peninit), sl_peninit⟩)
    (c_peninit : PySem.W.codeIn K cd_peninit "Pen.__init__" = true)
    (k_peninit : PySem.W.keepIn K (.ref A_peninit) = true)
    (a_penget : PySem.W.findIn K (.ref O_Pen) "corners" = some (some (.ref p_penget)))
    (pg_penget : PySem.W.specialIn K (.ref p_penget) "__get__" = some (some (.builtin "property.__get__")))
    (pt_penget : PySem.W.takesIn K (.ref p_penget) = some true)
    (pr_penget : PySem.W.recIn K p_penget "property" = some (.ref A_penget :: rs_penget))
    (l_penget : K.lookup A_penget = some ⟨oc_penget, od_penget, .func (PySem.W.fnOf "corners" "Pen.corners" (defArgs (inClass (topS 26) 2)) (defBody (inClass (topS 26) 2)) (defScope (inClass (topS 26) 2)) .none kV_penget dc_penget pm_penget an_penget cd_penget ct_penget), sl_penget⟩)
    (c_penget : PySem.W.codeIn K cd_penget "Pen.corners" = true)
    (k_penget : PySem.W.keepIn K (.ref A_penget) = true)
    (tk_set : PySem.W.takerIn K O_Pen "corners" = some (some (.ref p_penget)))
    (ty_set : PySem.W.typeIn K (.ref p_penget) = some (.type "property"))
    (rc_set : PySem.W.recIn K p_penget "property" = some (v_set :: .ref A_penset :: rs_set))
    (l_penset : K.lookup A_penset = some ⟨oc_penset, od_penset, .func (PySem.W.fnOf "corners" "Pen.corners" (defArgs (inClass (topS 26) 3)) (defBody (inClass (topS 26) 3)) (defScope (inClass (topS 26) 3)) .none kV_penset dc_penset pm_penset an_penset cd_penset ct_penset), sl_penset⟩)
    (c_penset : PySem.W.codeIn K cd_penset "Pen.corners" = true)
    (k_penset : PySem.W.keepIn K (.ref A_penset) = true)
    (a_penchange : PySem.W.findIn K (.ref O_Pen) "change" = some (some (.ref A_penchange)))
    (i_penchange : PySem.W.isFn K (.ref A_penchange) = true)
    (l_penchange : K.lookup A_penchange = some ⟨oc_penchange, od_penchange, .func (PySem.W.fnOf "change" "Pen.change" (defArgs (inClass (topS 26) 4)) (defBody (inClass (topS 26) 4)) (defScope (inClass (topS 26) 4)) .none kV_penchange dc_penchange pm_penchange an_penchange cd_penchange ct_penchange), sl_penchange⟩)
    (c_penchange : PySem.W.codeIn K cd_penchange "Pen.change" = true)
    (k_penchange : PySem.W.keepIn K (.ref A_penchange) = true)
    (nePp : O_Pen ≠ C)
    (nfN : PySem.W.notFirst K O_Pen (.ref O_Pen) = true)
    (nfL : PySem.W.notFirst K O_Pen (.type "list") = true)
    (icN : PySem.W.isClsIn K O_Pen = true)
    (tlN : PySem.W.subIn K (.type "list") (.ref O_Pen) = some false)
    (a_peneq : PySem.W.findIn K (.ref O_Pen) "__eq__" = some (some (.ref A_peneq)))
    (i_peneq : PySem.W.isFn K (.ref A_peneq) = true)
    (l_peneq : K.lookup A_peneq = some ⟨oc_peneq, od_peneq, .func (PySem.W.fnOf "__eq__" "Pen.__eq__" (defArgs (inClass (topS 26) 8)) (defBody (inClass (topS 26) 8)) (defScope (inClass (topS 26) 8)) .none kV_peneq dc_peneq pm_peneq an_peneq cd_peneq ct_peneq), sl_peneq⟩)
    (c_peneq : PySem.W.codeIn K cd_peneq "Pen.__eq__" = true)
    (k_peneq : PySem.W.keepIn K (.ref A_peneq) = true)
    (a_iterPen : PySem.W.findIn K (.ref O_Pen) "__iter__" = some (some (.ref A_iterPen)))
    (i_iterPen : PySem.W.isFn K (.ref A_iterPen) = true)
    (l_iterPen : K.lookup A_iterPen = some ⟨oc_iterPen, od_iterPen, .func (PySem.W.fnOf "__iter__" "Pen.__iter__" (defArgs (inClass (topS 26) 5)) (defBody (inClass (topS 26) 5)) (defScope (inClass (topS 26) 5)) .none kV_iterPen dc_iterPen pm_iterPen an_iterPen cd_iterPen ct_iterPen), sl_iterPen⟩)
    (c_iterPen : PySem.W.codeIn K cd_iterPen "Pen.__iter__" = true)
    (k_iterPen : PySem.W.keepIn K (.ref A_iterPen) = true)
    (a_nth : PySem.W.nsIn K mainGlobals "_law_nth" = some (some (.ref A_nth)))
    (l_nth : K.lookup A_nth = some ⟨oc_nth, od_nth, .func (PySem.W.fnOf "_law_nth" "_law_nth" (defArgs (topS 28)) (defBody (topS 28)) (defScope (topS 28)) .none kV_nth dc_nth pm_nth an_nth cd_nth ct_nth), sl_nth⟩)
    (c_nth : PySem.W.codeIn K cd_nth "_law_nth" = true)
    (k_nth : PySem.W.keepIn K (.ref A_nth) = true)
    (a_draws : PySem.W.nsIn K mainGlobals "_law_draws" = some (some (.ref A_draws)))
    (l_draws : K.lookup A_draws = some ⟨oc_draws, od_draws, .func (PySem.W.fnOf "_law_draws" "_law_draws" (defArgs (topS 29)) (defBody (topS 29)) (defScope (topS 29)) .none kV_draws dc_draws pm_draws an_draws cd_draws ct_draws), sl_draws⟩)
    (c_draws : PySem.W.codeIn K cd_draws "_law_draws" = true)
    (k_draws : PySem.W.keepIn K (.ref A_draws) = true)
    (a_same : PySem.W.nsIn K mainGlobals "_law_same" = some (some (.ref A_same)))
    (l_same : K.lookup A_same = some ⟨oc_same, od_same, .func (PySem.W.fnOf "_law_same" "_law_same" (defArgs (topS 30)) (defBody (topS 30)) (defScope (topS 30)) .none kV_same dc_same pm_same an_same cd_same ct_same), sl_same⟩)
    (c_same : PySem.W.codeIn K cd_same "_law_same" = true)
    (k_same : PySem.W.keepIn K (.ref A_same) = true)
    (a_lgcd : PySem.W.nsIn K mainGlobals "_law_gcd" = some (some (.ref A_lgcd)))
    (l_lgcd : K.lookup A_lgcd = some ⟨oc_lgcd, od_lgcd, .func (PySem.W.fnOf "_law_gcd" "_law_gcd" (defArgs (topS 31)) (defBody (topS 31)) (defScope (topS 31)) .none kV_lgcd dc_lgcd pm_lgcd an_lgcd cd_lgcd ct_lgcd), sl_lgcd⟩)
    (c_lgcd : PySem.W.codeIn K cd_lgcd "_law_gcd" = true)
    (k_lgcd : PySem.W.keepIn K (.ref A_lgcd) = true)
    (a_over : PySem.W.nsIn K mainGlobals "_law_draw_over" = some (some (.ref A_over)))
    (l_over : K.lookup A_over = some ⟨oc_over, od_over, .func (PySem.W.fnOf "_law_draw_over" "_law_draw_over" (defArgs (topS 34)) (defBody (topS 34)) (defScope (topS 34)) .none kV_over dc_over pm_over an_over cd_over ct_over), sl_over⟩)
    (c_over : PySem.W.codeIn K cd_over "_law_draw_over" = true)
    (k_over : PySem.W.keepIn K (.ref A_over) = true)
    (a_interms : PySem.W.nsIn K mainGlobals "_law_in_terms" = some (some (.ref A_interms)))
    (l_interms : K.lookup A_interms = some ⟨oc_interms, od_interms, .func (PySem.W.fnOf "_law_in_terms" "_law_in_terms" (defArgs (topS 32)) (defBody (topS 32)) (defScope (topS 32)) .none kV_interms dc_interms pm_interms an_interms cd_interms ct_interms), sl_interms⟩)
    (c_interms : PySem.W.codeIn K cd_interms "_law_in_terms" = true)
    (k_interms : PySem.W.keepIn K (.ref A_interms) = true)
    (a_ispoint : PySem.W.nsIn K mainGlobals "_law_is_point" = some (some (.ref A_ispoint)))
    (l_ispoint : K.lookup A_ispoint = some ⟨oc_ispoint, od_ispoint, .func (PySem.W.fnOf "_law_is_point" "_law_is_point" (defArgs (topS 33)) (defBody (topS 33)) (defScope (topS 33)) .none kV_ispoint dc_ispoint pm_ispoint an_ispoint cd_ispoint ct_ispoint), sl_ispoint⟩)
    (c_ispoint : PySem.W.codeIn K cd_ispoint "_law_is_point" = true)
    (k_ispoint : PySem.W.keepIn K (.ref A_ispoint) = true)
    (a_lturn : PySem.W.nsIn K mainGlobals "_law_turn" = some (some (.ref A_lturn)))
    (l_lturn : K.lookup A_lturn = some ⟨oc_lturn, od_lturn, .func (PySem.W.fnOf "_law_turn" "_law_turn" (defArgs (topS 35)) (defBody (topS 35)) (defScope (topS 35)) .none kV_lturn dc_lturn pm_lturn an_lturn cd_lturn ct_lturn), sl_lturn⟩)
    (c_lturn : PySem.W.codeIn K cd_lturn "_law_turn" = true)
    (k_lturn : PySem.W.keepIn K (.ref A_lturn) = true)
    (a_halfhull : PySem.W.nsIn K mainGlobals "_law_half_hull" = some (some (.ref A_halfhull)))
    (l_halfhull : K.lookup A_halfhull = some ⟨oc_halfhull, od_halfhull, .func (PySem.W.fnOf "_law_half_hull" "_law_half_hull" (defArgs (topS 36)) (defBody (topS 36)) (defScope (topS 36)) .none kV_halfhull dc_halfhull pm_halfhull an_halfhull cd_halfhull ct_halfhull), sl_halfhull⟩)
    (c_halfhull : PySem.W.codeIn K cd_halfhull "_law_half_hull" = true)
    (k_halfhull : PySem.W.keepIn K (.ref A_halfhull) = true)
    (a_hullof : PySem.W.nsIn K mainGlobals "_law_hull_of" = some (some (.ref A_hullof)))
    (l_hullof : K.lookup A_hullof = some ⟨oc_hullof, od_hullof, .func (PySem.W.fnOf "_law_hull_of" "_law_hull_of" (defArgs (topS 37)) (defBody (topS 37)) (defScope (topS 37)) .none kV_hullof dc_hullof pm_hullof an_hullof cd_hullof ct_hullof), sl_hullof⟩)
    (c_hullof : PySem.W.codeIn K cd_hullof "_law_hull_of" = true)
    (k_hullof : PySem.W.keepIn K (.ref A_hullof) = true)
    (a_drawspots : PySem.W.nsIn K mainGlobals "_law_draw_spots" = some (some (.ref A_drawspots)))
    (l_drawspots : K.lookup A_drawspots = some ⟨oc_drawspots, od_drawspots, .func (PySem.W.fnOf "_law_draw_spots" "_law_draw_spots" (defArgs (topS 38)) (defBody (topS 38)) (defScope (topS 38)) .none kV_drawspots dc_drawspots pm_drawspots an_drawspots cd_drawspots ct_drawspots), sl_drawspots⟩)
    (c_drawspots : PySem.W.codeIn K cd_drawspots "_law_draw_spots" = true)
    (k_drawspots : PySem.W.keepIn K (.ref A_drawspots) = true)
    (a_drawshape : PySem.W.nsIn K mainGlobals "_law_draw_shape" = some (some (.ref A_drawshape)))
    (l_drawshape : K.lookup A_drawshape = some ⟨oc_drawshape, od_drawshape, .func (PySem.W.fnOf "_law_draw_shape" "_law_draw_shape" (defArgs (topS 41)) (defBody (topS 41)) (defScope (topS 41)) .none kV_drawshape dc_drawshape pm_drawshape an_drawshape cd_drawshape ct_drawshape), sl_drawshape⟩)
    (c_drawshape : PySem.W.codeIn K cd_drawshape "_law_draw_shape" = true)
    (k_drawshape : PySem.W.keepIn K (.ref A_drawshape) = true)
    (a_made : PySem.W.nsIn K mainGlobals "_law_made_points" = some (some (.ref A_made)))
    (l_made : K.lookup A_made = some ⟨oc_made, od_made, .func (PySem.W.fnOf "_law_made_points" "_law_made_points" (defArgs (topS 39)) (defBody (topS 39)) (defScope (topS 39)) .none kV_made dc_made pm_made an_made cd_made ct_made), sl_made⟩)
    (c_made : PySem.W.codeIn K cd_made "_law_made_points" = true)
    (k_made : PySem.W.keepIn K (.ref A_made) = true)
    (a_arepoints : PySem.W.nsIn K mainGlobals "_law_are_points" = some (some (.ref A_arepoints)))
    (l_arepoints : K.lookup A_arepoints = some ⟨oc_arepoints, od_arepoints, .func (PySem.W.fnOf "_law_are_points" "_law_are_points" (defArgs (topS 40)) (defBody (topS 40)) (defScope (topS 40)) .none kV_arepoints dc_arepoints pm_arepoints an_arepoints cd_arepoints ct_arepoints), sl_arepoints⟩)
    (c_arepoints : PySem.W.codeIn K cd_arepoints "_law_are_points" = true)
    (k_arepoints : PySem.W.keepIn K (.ref A_arepoints) = true)
    (a_shows : PySem.W.nsIn K mainGlobals "_law_shows" = some (some (.ref A_shows)))
    (l_shows : K.lookup A_shows = some ⟨oc_shows, od_shows, .func (PySem.W.fnOf "_law_shows" "_law_shows" (defArgs (topS 42)) (defBody (topS 42)) (defScope (topS 42)) .none kV_shows dc_shows pm_shows an_shows cd_shows ct_shows), sl_shows⟩)
    (c_shows : PySem.W.codeIn K cd_shows "_law_shows" = true)
    (k_shows : PySem.W.keepIn K (.ref A_shows) = true)
    (a_law : PySem.W.nsIn K mainGlobals "law" = some (some (.ref A_law)))
    (l_law : K.lookup A_law = some ⟨oc_law, od_law, .func (PySem.W.fnOf "law" "law" (defArgs (topS 43)) (defBody (topS 43)) (defScope (topS 43)) .none kV_law dc_law pm_law an_law cd_law ct_law), sl_law⟩)
    (c_law : PySem.W.codeIn K cd_law "law" = true)
    (k_law : PySem.W.keepIn K (.ref A_law) = true)
    , ∃ fd : FuncData, (∀ (s : Shared) (u : Value), BindsTo s fd ⟨[u], []⟩ [("_law_script", u)]) ∧ ∀ base : Heap, K.In base → base.Ns mainGlobals mg → FnOk l.prog w K mg base (L2N.CX l.prog w) 12 fa fd ["_law_script"] (spLawE K)
section
-- the head clears what stands in the context ahead of it: so H is taken along by a copy
local macro_rules | `(tactic| refine $f:ident (q := $q) $args*) => do
  let h := Lean.mkIdent `H
  `(tactic| (refine' $f (q := $q) $args* <;> try have $h := @$h))
-- the kernel's run is put off: it becomes the first half of hd, and is looked at in a theorem of its own
local macro_rules | `(tactic| refine $f:ident (M := $m) $args*) => do
  if f.getId.eraseMacroScopes != `HeadRun.left_oneK then Lean.Macro.throwUnsupported
  let h := Lean.mkIdent `hP
  `(tactic| (refine' (fun (_ : ∀ (w : World) (os : OsState), (1 : Nat) = 1) => ?rr) ?zz; (case rr => exact $h)))
set_option maxRecDepth 100000 in
set_option maxHeartbeats 0 in
noncomputable def hd : (P : Prop) ×' (P → Facts → PySem.Challenge.rw_evenpen_k06_corners_of_a_pen.Holds) := by
  refine ⟨?P, fun hP H => ?F⟩
  case F =>
  w_on; o_law; k_headL; (case hw => clear H; change PySem.W.RowW.promised _; w_witness2)
  k_fill
  refine walkE (l := PySem.Challenge.rw_evenpen_k06_corners_of_a_pen) rfl rfl (fun w h Y => PySem.W.kIn_of Y) ?F
  case F =>
    as_aux_lemma =>
    intro w mg fa h KX G hmg
    unfold Facts at H
    refine' H KX G hmg ?z_abs ?z_int ?z_len ?z_range ?z_isinstance ?z_bool ?z_str ?z_tuple ?z_list ?z_max ?z_min ?z_enumerate ?z_sorted ?z_set ?z_sum ?z_all ?z_any ?z_zip ?z_iter ?z_next ?z_divmod ?z_valueerror ?cn ?ctk ?a_Point ?pg ?ic ?po ?tyP ?saP ?caP ?moP ?sAX ?sGX ?sTX ?sYX ?sIX ?sLX ?sAY ?sGY ?sTY ?sYY ?sIY ?sLY ?sAO ?sGO ?sTO ?sYO ?sIO ?sLO ?nXY ?nXO ?nYO ?a_BadOver ?x_BadOver ?r_BadOver ?sa_BadOver ?ga_BadOver ?gg_BadOver ?ca_BadOver ?sx_BadOver ?ty_BadOver ?kc_BadOver ?hd_BadOver ?ic_BadOver ?ss_BadOver ?mo_BadOver ?nf_BadOver_over ?a_iBadOver ?tf_iBadOver ?l_iBadOver ?c_iBadOver ?k_iBadOver ?a_gcd ?l_gcd ?c_gcd ?k_gcd ?a_red ?l_red ?c_red ?k_red ?a_pinit ?i_pinit ?mkP ?kcP ?l_pinit ?c_pinit ?k_pinit ?t_pinit ?nfP ?tt ?a_peq ?i_peq ?l_peq ?c_peq ?k_peq ?a_BadCount ?x_BadCount ?r_BadCount ?sa_BadCount ?ga_BadCount ?gg_BadCount ?ca_BadCount ?sx_BadCount ?ty_BadCount ?kc_BadCount ?hd_BadCount ?ic_BadCount ?ss_BadCount ?mo_BadCount ?nf_BadCount_count ?a_iBadCount ?tf_iBadCount ?l_iBadCount ?c_iBadCount ?k_iBadCount ?a_Bent ?x_Bent ?r_Bent ?sa_Bent ?ga_Bent ?gg_Bent ?ca_Bent ?sx_Bent ?ty_Bent ?kc_Bent ?hd_Bent ?ic_Bent ?ss_Bent ?mo_Bent ?nf_Bent_at ?a_iBent ?tf_iBent ?l_iBent ?c_iBent ?k_iBent ?a_cmult ?l_cmult ?c_cmult ?k_cmult ?a_commonover ?l_commonover ?c_commonover ?k_commonover ?a_placesof ?l_placesof ?c_placesof ?k_placesof ?a_turn ?l_turn ?c_turn ?k_turn ?a_isbent ?l_isbent ?c_isbent ?k_isbent ?a_Pen ?pg_Pen ?hd_Pen ?po_Pen ?sa_Pen ?ca_Pen ?mo_Pen ?nf_Pen__corners ?ns_any ?ga_type ?st_type ?ty_Pen ?ga_Pen ?ct_type ?cf_Pen ?a_ordered ?l_ordered ?c_ordered ?k_ordered ?a_peninit ?i_peninit ?mk_peninit ?kc_peninit ?l_peninit ?c_peninit ?k_peninit ?a_penget ?pg_penget ?pt_penget ?pr_penget ?l_penget ?c_penget ?k_penget ?tk_set ?ty_set ?rc_set ?l_penset ?c_penset ?k_penset ?a_penchange ?i_penchange ?l_penchange ?c_penchange ?k_penchange ?nePp ?nfN ?nfL ?icN ?tlN ?a_peneq ?i_peneq ?l_peneq ?c_peneq ?k_peneq ?a_iterPen ?i_iterPen ?l_iterPen ?c_iterPen ?k_iterPen ?a_nth ?l_nth ?c_nth ?k_nth ?a_draws ?l_draws ?c_draws ?k_draws ?a_same ?l_same ?c_same ?k_same ?a_lgcd ?l_lgcd ?c_lgcd ?k_lgcd ?a_over ?l_over ?c_over ?k_over ?a_interms ?l_interms ?c_interms ?k_interms ?a_ispoint ?l_ispoint ?c_ispoint ?k_ispoint ?a_lturn ?l_lturn ?c_lturn ?k_lturn ?a_halfhull ?l_halfhull ?c_halfhull ?k_halfhull ?a_hullof ?l_hullof ?c_hullof ?k_hullof ?a_drawspots ?l_drawspots ?c_drawspots ?k_drawspots ?a_drawshape ?l_drawshape ?c_drawshape ?k_drawshape ?a_made ?l_made ?c_made ?k_made ?a_arepoints ?l_arepoints ?c_arepoints ?k_arepoints ?a_shows ?l_shows ?c_shows ?k_shows ?a_law ?l_law ?c_law ?k_law
    (case z_abs => k_is)
    (case z_int => k_is)
    (case z_len => k_is)
    (case z_range => k_is)
    (case z_isinstance => k_is)
    (case z_bool => k_is)
    (case z_str => k_is)
    (case z_tuple => k_is)
    (case z_list => k_is)
    (case z_max => k_is)
    (case z_min => k_is)
    (case z_enumerate => k_is)
    (case z_sorted => k_is)
    (case z_set => k_is)
    (case z_sum => k_is)
    (case z_all => k_is)
    (case z_any => k_is)
    (case z_zip => k_is)
    (case z_iter => k_is)
    (case z_next => k_is)
    (case z_divmod => k_is)
    (case z_valueerror => k_is)
    (case cn => k_is)
    (case ctk => k_is)
    (case a_Point => k_is)
    (case pg => k_is)
    (case ic => k_is)
    (case po => k_is)
    (case tyP => k_is)
    (case saP => k_is)
    (case caP => k_is)
    (case moP => k_is)
    (case sAX => k_is)
    (case sGX => k_is)
    (case sTX => k_is)
    (case sYX => k_is)
    (case sIX => k_is)
    (case sLX => decide)
    (case sAY => k_is)
    (case sGY => k_is)
    (case sTY => k_is)
    (case sYY => k_is)
    (case sIY => k_is)
    (case sLY => decide)
    (case sAO => k_is)
    (case sGO => k_is)
    (case sTO => k_is)
    (case sYO => k_is)
    (case sIO => k_is)
    (case sLO => decide)
    (case nXY => decide)
    (case nXO => decide)
    (case nYO => decide)
    (case a_BadOver => k_is)
    (case x_BadOver => k_is)
    (case r_BadOver => first | rfl | decide +kernel)
    (case sa_BadOver => k_is)
    (case ga_BadOver => k_is)
    (case gg_BadOver => k_is)
    (case ca_BadOver => k_is)
    (case sx_BadOver => k_is)
    (case ty_BadOver => k_is)
    (case kc_BadOver => k_is)
    (case hd_BadOver => k_is)
    (case ic_BadOver => k_is)
    (case ss_BadOver => first | rfl | k_is)
    (case mo_BadOver => k_is)
    (case nf_BadOver_over => k_is)
    (case a_iBadOver => k_is)
    (case tf_iBadOver => k_is)
    (case l_iBadOver => k_is)
    (case c_iBadOver => k_is)
    (case k_iBadOver => k_is)
    (case a_gcd => k_is)
    (case l_gcd => k_is)
    (case c_gcd => k_is)
    (case k_gcd => k_is)
    (case a_red => k_is)
    (case l_red => k_is)
    (case c_red => k_is)
    (case k_red => k_is)
    (case a_pinit => k_is)
    (case i_pinit => k_is)
    (case mkP => k_is)
    (case kcP => k_is)
    (case l_pinit => k_is)
    (case c_pinit => k_is)
    (case k_pinit => k_is)
    (case t_pinit => k_is)
    (case nfP => k_is)
    (case tt => first | rfl | k_is)
    (case a_peq => k_is)
    (case i_peq => k_is)
    (case l_peq => k_is)
    (case c_peq => k_is)
    (case k_peq => k_is)
    (case a_BadCount => k_is)
    (case x_BadCount => k_is)
    (case r_BadCount => first | rfl | decide +kernel)
    (case sa_BadCount => k_is)
    (case ga_BadCount => k_is)
    (case gg_BadCount => k_is)
    (case ca_BadCount => k_is)
    (case sx_BadCount => k_is)
    (case ty_BadCount => k_is)
    (case kc_BadCount => k_is)
    (case hd_BadCount => k_is)
    (case ic_BadCount => k_is)
    (case ss_BadCount => first | rfl | k_is)
    (case mo_BadCount => k_is)
    (case nf_BadCount_count => k_is)
    (case a_iBadCount => k_is)
    (case tf_iBadCount => k_is)
    (case l_iBadCount => k_is)
    (case c_iBadCount => k_is)
    (case k_iBadCount => k_is)
    (case a_Bent => k_is)
    (case x_Bent => k_is)
    (case r_Bent => first | rfl | decide +kernel)
    (case sa_Bent => k_is)
    (case ga_Bent => k_is)
    (case gg_Bent => k_is)
    (case ca_Bent => k_is)
    (case sx_Bent => k_is)
    (case ty_Bent => k_is)
    (case kc_Bent => k_is)
    (case hd_Bent => k_is)
    (case ic_Bent => k_is)
    (case ss_Bent => first | rfl | k_is)
    (case mo_Bent => k_is)
    (case nf_Bent_at => k_is)
    (case a_iBent => k_is)
    (case tf_iBent => k_is)
    (case l_iBent => k_is)
    (case c_iBent => k_is)
    (case k_iBent => k_is)
    (case a_cmult => k_is)
    (case l_cmult => k_is)
    (case c_cmult => k_is)
    (case k_cmult => k_is)
    (case a_commonover => k_is)
    (case l_commonover => k_is)
    (case c_commonover => k_is)
    (case k_commonover => k_is)
    (case a_placesof => k_is)
    (case l_placesof => k_is)
    (case c_placesof => k_is)
    (case k_placesof => k_is)
    (case a_turn => k_is)
    (case l_turn => k_is)
    (case c_turn => k_is)
    (case k_turn => k_is)
    (case a_isbent => k_is)
    (case l_isbent => k_is)
    (case c_isbent => k_is)
    (case k_isbent => k_is)
    (case a_Pen => k_is)
    (case pg_Pen => k_is)
    (case hd_Pen => k_is)
    (case po_Pen => k_is)
    (case sa_Pen => k_is)
    (case ca_Pen => k_is)
    (case mo_Pen => k_is)
    (case nf_Pen__corners => k_is)
    (case ns_any => k_is)
    (case ga_type => k_is)
    (case st_type => first | rfl | k_is)
    (case ty_Pen => k_is)
    (case ga_Pen => k_is)
    (case ct_type => k_is)
    (case cf_Pen => k_is)
    (case a_ordered => k_is)
    (case l_ordered => k_is)
    (case c_ordered => k_is)
    (case k_ordered => k_is)
    (case a_peninit => k_is)
    (case i_peninit => k_is)
    (case mk_peninit => k_is)
    (case kc_peninit => k_is)
    (case l_peninit => k_is)
    (case c_peninit => k_is)
    (case k_peninit => k_is)
    (case a_penget => k_is)
    (case pg_penget => k_is)
    (case pt_penget => k_is)
    (case pr_penget => k_is)
    (case l_penget => k_is)
    (case c_penget => k_is)
    (case k_penget => k_is)
    (case tk_set => k_is)
    (case ty_set => k_is)
    (case rc_set => k_is)
    (case l_penset => k_is)
    (case c_penset => k_is)
    (case k_penset => k_is)
    (case a_penchange => k_is)
    (case i_penchange => k_is)
    (case l_penchange => k_is)
    (case c_penchange => k_is)
    (case k_penchange => k_is)
    (case nePp => decide)
    (case nfN => k_is)
    (case nfL => k_is)
    (case icN => k_is)
    (case tlN => first | rfl | k_is)
    (case a_peneq => k_is)
    (case i_peneq => k_is)
    (case l_peneq => k_is)
    (case c_peneq => k_is)
    (case k_peneq => k_is)
    (case a_iterPen => k_is)
    (case i_iterPen => k_is)
    (case l_iterPen => k_is)
    (case c_iterPen => k_is)
    (case k_iterPen => k_is)
    (case a_nth => k_is)
    (case l_nth => k_is)
    (case c_nth => k_is)
    (case k_nth => k_is)
    (case a_draws => k_is)
    (case l_draws => k_is)
    (case c_draws => k_is)
    (case k_draws => k_is)
    (case a_same => k_is)
    (case l_same => k_is)
    (case c_same => k_is)
    (case k_same => k_is)
    (case a_lgcd => k_is)
    (case l_lgcd => k_is)
    (case c_lgcd => k_is)
    (case k_lgcd => k_is)
    (case a_over => k_is)
    (case l_over => k_is)
    (case c_over => k_is)
    (case k_over => k_is)
    (case a_interms => k_is)
    (case l_interms => k_is)
    (case c_interms => k_is)
    (case k_interms => k_is)
    (case a_ispoint => k_is)
    (case l_ispoint => k_is)
    (case c_ispoint => k_is)
    (case k_ispoint => k_is)
    (case a_lturn => k_is)
    (case l_lturn => k_is)
    (case c_lturn => k_is)
    (case k_lturn => k_is)
    (case a_halfhull => k_is)
    (case l_halfhull => k_is)
    (case c_halfhull => k_is)
    (case k_halfhull => k_is)
    (case a_hullof => k_is)
    (case l_hullof => k_is)
    (case c_hullof => k_is)
    (case k_hullof => k_is)
    (case a_drawspots => k_is)
    (case l_drawspots => k_is)
    (case c_drawspots => k_is)
    (case k_drawspots => k_is)
    (case a_drawshape => k_is)
    (case l_drawshape => k_is)
    (case c_drawshape => k_is)
    (case k_drawshape => k_is)
    (case a_made => k_is)
    (case l_made => k_is)
    (case c_made => k_is)
    (case k_made => k_is)
    (case a_arepoints => k_is)
    (case l_arepoints => k_is)
    (case c_arepoints => k_is)
    (case k_arepoints => k_is)
    (case a_shows => k_is)
    (case l_shows => k_is)
    (case c_shows => k_is)
    (case k_shows => k_is)
    (case a_law => k_is)
    (case l_law => k_is)
    (case c_law => k_is)
    (case k_law => k_is)
end
set_option maxRecDepth 100000 in
set_option maxHeartbeats 0 in
theorem gather {σ α0 α1 α2 α3 α4 α5 α6 α7 α8 α9 α10 : Type} {o : Option σ} {f0 : σ → α0} {f1 : σ → α1} {f2 : σ → α2} {f3 : σ → α3} {f4 : σ → α4} {f5 : σ → α5} {f6 : σ → α6} {f7 : σ → α7} {f8 : σ → α8} {f9 : σ → α9} {f10 : σ → α10} {a0 : α0} {a1 : α1} {a2 : α2} {a3 : α3} {a4 : α4} {a5 : α5} {a6 : α6} {a7 : α7} {a8 : α8} {a9 : α9} {a10 : α10} (h0 : o.map (fun s => (f0 s, f1 s, f2 s, f5 s, f7 s, f9 s, f10 s)) = some (a0, a1, a2, a5, a7, a9, a10)) (h1 : o.map (fun s => (f3 s, f4 s)) = some (a3, a4)) (h2 : o.map (fun s => (f6 s, f8 s)) = some (a6, a8)) :
    o.map (fun s => (f0 s, (f1 s, f2 s, f3 s, f4 s, f5 s, f6 s, f7 s, f8 s, f9 s), f10 s)) = some (a0, (a1, a2, a3, a4, a5, a6, a7, a8, a9), a10) := by
  cases o with
  | none => exact nomatch h0
  | some s =>
    have e0 := Option.some.inj h0
    simp only [Prod.mk.injEq] at e0
    obtain ⟨q0, q1, q2, q5, q7, q9, q10⟩ := e0
    have e1 := Option.some.inj h1
    simp only [Prod.mk.injEq] at e1
    obtain ⟨q3, q4⟩ := e1
    have e2 := Option.some.inj h2
    simp only [Prod.mk.injEq] at e2
    obtain ⟨q6, q8⟩ := e2
    rw [Option.map_some, q0, q1, q2, q3, q4, q5, q6, q7, q8, q9, q10]
set_option maxRecDepth 100000 in
set_option maxHeartbeats 0 in
noncomputable def hp : (A0 : World → OsState → Prop) ×' (A1 : World → OsState → Prop) ×' (A2 : World → OsState → Prop) ×' ((∀ w os, A0 w os) → (∀ w os, A1 w os) → (∀ w os, A2 w os) → hd.1) := by
  refine ⟨?A0, ?A1, ?A2, fun a0 a1 a2 => ?F⟩
  case F =>
  show PySem.W.LeftO _ _ _ _ _ _ _ _
  refine HeadRun.left_oneK (le := Nat.ble_eq_true_of_le (Nat.le_refl _)) (by kernel_rfl) (by rfl) (fun s => by kernel_rfl) ?_
  intro w os
  unfold HeadRun.seenQ PySem.W.Fast.tw4187177175401517315 PySem.W.openGood
  refine gather ?x0 ?x1 ?x2
  · exact a0 w os
  · exact a1 w os
  · exact a2 w os
set_option maxRecDepth 100000 in
set_option maxHeartbeats 0 in
theorem run_0 : ∀ w os, hp.1 w os := by
  intro w os
  show _ = _
  kernel_rfl
set_option maxRecDepth 100000 in
set_option maxHeartbeats 0 in
theorem run_1 : ∀ w os, hp.2.1 w os := by
  intro w os
  show _ = _
  kernel_rfl
set_option maxRecDepth 100000 in
set_option maxHeartbeats 0 in
theorem run_2 : ∀ w os, hp.2.2.1 w os := by
  intro w os
  show _ = _
  kernel_rfl
theorem hd_run : hd.1 := hp.2.2.2 run_0 run_1 run_2
theorem cw_aux (H : Facts) : PySem.Challenge.rw_evenpen_k06_corners_of_a_pen.Holds := hd.2 hd_run H
end Ev
set_option Elab.async false
set_option linter.all false
set_option maxRecDepth 100000
set_option maxHeartbeats 4000000
namespace Fw
open PySem L2

/-! ### data without a heap -/
inductive D where
  | non | bl (b : Bool) | int (i : Int) | str (x : Str)
  | tup (xs : List D) | lst (xs : List D) | pt (x y o : Int) | obj (c : Nat) (fs : List (Str × D))

/-- what stands where: the written part, the class of points with its slots' places, the other classes, the error classes -/
structure Sg where
  K : PySem.W.Frag
  cP : Addr
  iX : Nat
  iY : Nat
  iO : Nat
  cO : Nat → Addr
  cX : Nat → Addr

mutual
inductive Rep (S : Sg) (H : Hp) : V → D → Prop
  | non : Rep S H .non .non
  | bl (b : Bool) : Rep S H (.bl b) (.bl b)
  | int (i : Int) : Rep S H (.int i) (.int i)
  | str (x : Str) : Rep S H (.str x) (.str x)
  | tup {a : Addr} {vs : List V} {ds : List D} (h : SqT S.K H a vs) (r : Reps S H vs ds) : Rep S H (.ref a) (.tup ds)
  | lst {a : Addr} {vs : List V} {ds : List D} (h : SqL S.K H a vs) (r : Reps S H vs ds) : Rep S H (.ref a) (.lst ds)
  | pt {a dx : Addr} {vs : List (Option V)} {x y o : Int} (h : SlX.Slt H a S.cP dx vs) (hx : vs[S.iX]? = some (some (.int x))) (hy : vs[S.iY]? = some (some (.int y))) (ho : vs[S.iO]? = some (some (.int o))) : Rep S H (.ref a) (.pt x y o)
  | obj {a dx : Addr} {c : Nat} {fs : List (Str × V)} {gs : List (Str × D)} (h : H a = some (.ins (S.cO c) dx fs)) (r : RepF S H fs gs) : Rep S H (.ref a) (.obj c gs)
inductive Reps (S : Sg) (H : Hp) : List V → List D → Prop
  | nil : Reps S H [] []
  | cons {v : V} {d : D} {vs : List V} {ds : List D} (h : Rep S H v d) (t : Reps S H vs ds) : Reps S H (v :: vs) (d :: ds)
inductive RepF (S : Sg) (H : Hp) : List (Str × V) → List (Str × D) → Prop
  | nil : RepF S H [] []
  | cons {f : Str} {v : V} {d : D} {vs : List (Str × V)} {ds : List (Str × D)} (h : Rep S H v d) (t : RepF S H vs ds) : RepF S H ((f, v) :: vs) ((f, d) :: ds)
end

theorem slt_mono {H H' : Hp} (e : Same H H') {a C dx : Addr} {vs : List (Option V)} (h : SlX.Slt H a C dx vs) : SlX.Slt H' a C dx vs := by
  rcases h with ⟨h1, h2⟩ | ⟨h1, h2⟩
  · exact .inl ⟨e _ _ h1, h2⟩
  · exact .inr ⟨e _ _ h1, e _ _ h2⟩

mutual
theorem Rep.mono {S : Sg} {H H' : Hp} (e : Same H H') : ∀ {v : V} {d : D}, Rep S H v d → Rep S H' v d
  | _, _, .non => .non
  | _, _, .bl b => .bl b
  | _, _, .int i => .int i
  | _, _, .str x => .str x
  | _, _, .tup h r => .tup (Evl.ex_t e h) (Reps.mono e r)
  | _, _, .lst h r => .lst (Evl.ex_l e h) (Reps.mono e r)
  | _, _, .pt h hx hy ho => .pt (slt_mono e h) hx hy ho
  | _, _, .obj h r => .obj (e _ _ h) (RepF.mono e r)
theorem Reps.mono {S : Sg} {H H' : Hp} (e : Same H H') : ∀ {v : List V} {d : List D}, Reps S H v d → Reps S H' v d
  | _, _, .nil => .nil
  | _, _, .cons h t => .cons (Rep.mono e h) (Reps.mono e t)
theorem RepF.mono {S : Sg} {H H' : Hp} (e : Same H H') : ∀ {v : List (Str × V)} {d : List (Str × D)}, RepF S H v d → RepF S H' v d
  | _, _, .nil => .nil
  | _, _, .cons h t => .cons (Rep.mono e h) (RepF.mono e t)
end

section
variable {S : Sg} {H H' : Hp} {vs : List V} {ds : List D}
theorem Reps.length : ∀ {vs : List V} {ds : List D}, Reps S H vs ds → vs.length = ds.length
  | _, _, .nil => rfl
  | _, _, .cons _ t => congrArg Nat.succ (Reps.length t)
theorem Reps.get : ∀ {vs : List V} {ds : List D} {i : Nat} {d : D}, Reps S H vs ds → ds[i]? = some d → ∃ v, vs[i]? = some v ∧ Rep S H v d
  | _, _, i, d, .nil, e => by simp at e
  | _, _, 0, d, .cons h _, e => by
    simp at e
    subst e
    exact ⟨_, rfl, h⟩
  | _, _, i + 1, d, .cons _ t, e => by
    obtain ⟨v, e1, r⟩ := Reps.get (i := i) (d := d) t (by simpa using e)
    exact ⟨v, by simpa using e1, r⟩
theorem Reps.getV : ∀ {vs : List V} {ds : List D} {i : Nat} {v : V}, Reps S H vs ds → vs[i]? = some v → ∃ d, ds[i]? = some d ∧ Rep S H v d
  | _, _, i, d, .nil, e => by simp at e
  | _, _, 0, d, .cons h _, e => by
    simp at e
    subst e
    exact ⟨_, rfl, h⟩
  | _, _, i + 1, d, .cons _ t, e => by
    obtain ⟨v, e1, r⟩ := Reps.getV (i := i) (v := d) t (by simpa using e)
    exact ⟨v, by simpa using e1, r⟩
theorem Reps.append : ∀ {vs : List V} {ds : List D} {ws : List V} {es : List D}, Reps S H vs ds → Reps S H ws es → Reps S H (vs ++ ws) (ds ++ es)
  | _, _, _, _, .nil, s => s
  | _, _, _, _, .cons h t, s => .cons h (Reps.append t s)
theorem Reps.take : ∀ {vs : List V} {ds : List D} (n : Nat), Reps S H vs ds → Reps S H (vs.take n) (ds.take n)
  | _, _, 0, _ => .nil
  | _, _, _ + 1, .nil => .nil
  | _, _, n + 1, .cons h t => .cons h (Reps.take n t)
theorem Reps.drop : ∀ {vs : List V} {ds : List D} (n : Nat), Reps S H vs ds → Reps S H (vs.drop n) (ds.drop n)
  | _, _, 0, h => h
  | _, _, _ + 1, .nil => .nil
  | _, _, n + 1, .cons h t => Reps.drop n t
theorem Reps.ints : ∀ {ns : List Int} {vs : List V}, Reps S H vs (ns.map D.int) → vs = ns.map V.int
  | [], _, .nil => rfl
  | n :: ns, _, .cons (.int _) t => by rw [Reps.ints t]; rfl
theorem Reps.of_ints : ∀ (ns : List Int), Reps S H (ns.map V.int) (ns.map D.int)
  | [] => .nil
  | n :: ns => .cons (.int n) (Reps.of_ints ns)
end

/-! ### hidden addresses -/
def hid (M : List Addr) (H : Hp) : Hp := fun a => if a ∈ M then none else H a
section
variable {S : Sg} {H H' : Hp} {M M' : List Addr} {a p : Addr} {o : HO} {v : V} {d : D}
theorem hid_some (h : hid M H a = some o) : a ∉ M ∧ H a = some o := by
  unfold hid at h
  by_cases e : a ∈ M
  · rw [if_pos e] at h; cases h
  · rw [if_neg e] at h; exact ⟨e, h⟩
theorem hid_of (hm : a ∉ M) (h : H a = some o) : hid M H a = some o := by
  unfold hid
  rw [if_neg hm]
  exact h
theorem hid_same (e : Same H H') : Same (hid M H) (hid M H') := fun b o h => by
  obtain ⟨h1, h2⟩ := hid_some h
  exact hid_of h1 (e _ _ h2)
theorem hid_le : Same (hid M H) H := fun b o h => (hid_some h).2
/-- fewer hidden: more is seen -/
theorem hid_sub (h : ∀ b ∈ M', b ∈ M) : Same (hid M H) (hid M' H) := fun b o e => by
  obtain ⟨h1, h2⟩ := hid_some e
  exact hid_of (fun z => h1 (h b z)) h2
/-- hiding an address that holds nothing -/
theorem hid_new (hp : H p = none) : Same (hid M H) (hid (p :: M) H) := fun b o e => by
  obtain ⟨h1, h2⟩ := hid_some e
  refine hid_of (fun z => ?_) h2
  rcases List.mem_cons.mp z with z | z
  · rw [z, hp] at h2; cases h2
  · exact h1 z
theorem same_upd (hp : H p = none) : Same H (upd H p o) := fun b u e => by
  rw [upd_ne (ne_of_none e hp)]
  exact e
/-- an object that is hidden may change -/
theorem hid_upd (hp : p ∈ M) : hid M (upd H p o) = hid M H := by
  funext b
  unfold hid
  by_cases e : b ∈ M
  · rw [if_pos e, if_pos e]
  · rw [if_neg e, if_neg e, upd_ne (fun z => e (by rw [z]; exact hp))]
end

/-! ### the state of a body -/
/-- a slot of a body: unknown, a value, a list of one's own, an instance of one's own (at a, its dict at dx), an instance with slots that is being made -/
inductive Sl where
  | no | v (d : D) | own (ds : List D) | ob (a dx : Addr) (c : Nat) (fs : List (Str × D)) | pi (a dx : Addr) (vs : List (Option V)) | exc (a dd : Addr) (c : Nat) (fs : List (Str × D))
abbrev En := List Sl
def Sl.mine : Sl → Bool
  | .no => false
  | .v _ => false
  | .exc _ _ _ _ => false
  | _ => true

/-- the entry: its heap, what is hidden from it; what it keeps besides its slots -/
structure Bs where
  H0 : Hp
  M0 : List Addr
  G : Hp → Prop
  gm : ∀ H H', Same H H' → G H → G H'

/-- a slot: an address that is one's own is hidden from all else -/
def RS (S : Sg) (B : Bs) (M : List Addr) (H : Hp) : Sl → Option V → Prop
  | .no, _ => True
  | .v d, o => ∃ v, o = some v ∧ Rep S (hid M H) v d
  | .own ds, o => ∃ l vs, o = some (.ref l) ∧ l ∈ M ∧ l ∉ B.M0 ∧ B.H0 l = none ∧ H l = some (.lst vs) ∧ Reps S (hid M H) vs ds
  | .ob a dx c fs, o => o = some (.ref a) ∧ a ∈ M ∧ B.H0 a = none ∧ ∃ ws, H a = some (.ins (S.cO c) dx ws) ∧ RepF S (hid M H) ws fs
  | .pi a dx vs, o => o = some (.ref a) ∧ a ∈ M ∧ dx ∈ M ∧ B.H0 a = none ∧ B.H0 dx = none ∧ dx ≠ a ∧ SlX.Slt H a S.cP dx vs ∧ (H dx = some (.own a) ∨ H dx = some (.xd []))
  | .exc a dd c fs, o => o = some (.ref a) ∧ (fs ≠ [] → ∃ ws, H dd = some (.xd ws) ∧ RepF S (hid M H) ws fs)

structure Stt (S : Sg) (B : Bs) (M : List Addr) (g : En) (t : L2.St) (H : Hp) : Prop where
  same : Same B.H0 H
  sub : ∀ a ∈ B.M0, a ∈ M
  new : ∀ a ∈ M, a ∈ B.M0 ∨ B.H0 a = none
  trk : ∀ a ∈ M, H a ≠ none
  sl : ∀ (i : Nat) (s : Sl), g[i]? = some s → ∃ o, t[i]? = some o ∧ RS S B M H s o
  gh : B.G (hid M H)
  apart : ∀ (i j : Nat) (s u : Sl) (v : V), i ≠ j → g[i]? = some s → g[j]? = some u → s.mine = true → u.mine = true → t[i]? = some (some v) → t[j]? = some (some v) → False

section
variable {S : Sg} {B : Bs} {M : List Addr} {g : En} {t : L2.St} {H H' : Hp}
theorem RS.mono (e : Same H H') : ∀ {s : Sl} {o : Option V}, RS S B M H s o → RS S B M H' s o
  | .no, _, _ => True.intro
  | .v d, o, ⟨v, e1, r⟩ => ⟨v, e1, r.mono (hid_same e)⟩
  | .own ds, o, ⟨l, vs, e1, m, m0, h0, hl, r⟩ => ⟨l, vs, e1, m, m0, h0, e _ _ hl, r.mono (hid_same e)⟩
  | .ob a dx c fs, o, ⟨e1, m, h0, ws, hl, r⟩ => ⟨e1, m, h0, ws, e _ _ hl, r.mono (hid_same e)⟩
  | .pi a dx vs, o, ⟨e1, m, m2, h0, h1, ne, hs, hd⟩ => ⟨e1, m, m2, h0, h1, ne, slt_mono e hs, hd.elim (fun z => .inl (e _ _ z)) fun z => .inr (e _ _ z)⟩
  | .exc a dd c fs, o, ⟨e1, x⟩ => ⟨e1, fun h => let ⟨ws, hd, r⟩ := x h; ⟨ws, e _ _ hd, r.mono (hid_same e)⟩⟩
theorem Stt.mono (e : Same H H') (h : Stt S B M g t H) : Stt S B M g t H' where
  same := h.same.trans e
  sub := h.sub
  new := h.new
  trk := fun a ha z => by
    cases q : H a with
    | none => exact h.trk a ha q
    | some o => rw [e _ _ q] at z; cases z
  sl := fun i s hi => let ⟨o, ho, r⟩ := h.sl i s hi; ⟨o, ho, r.mono e⟩
  gh := B.gm _ _ (hid_same e) h.gh
  apart := h.apart
theorem Stt.nm (h : Stt S B M g t H) {p : Addr} (hp : H p = none) : p ∉ M := fun z => h.trk p z hp
theorem Stt.var (h : Stt S B M g t H) {i : Nat} {d : D} (hi : g[i]? = some (.v d)) : ∃ v, t[i]? = some (some v) ∧ Rep S (hid M H) v d := by
  obtain ⟨o, ho, v, e, r⟩ := h.sl i _ hi
  exact ⟨v, by rw [ho, e], r⟩
theorem set_get {α : Type} {l : List α} {i : Nat} {a b : α} (h : (l.set i a)[i]? = some b) : a = b ∧ i < l.length := by
  have hl : i < (l.set i a).length := (List.getElem?_eq_some_iff.mp h).1
  rw [List.length_set] at hl
  rw [List.getElem?_set_self hl] at h
  exact ⟨Option.some.inj h, hl⟩
theorem Stt.tlen (h : Stt S B M g t H) {i : Nat} (hi : i < g.length) : i < t.length := by
  obtain ⟨o, ho, _⟩ := h.sl i _ (List.getElem?_eq_getElem hi)
  exact (List.getElem?_eq_some_iff.mp ho).1
/-- a slot takes a value -/
theorem Stt.set (h : Stt S B M g t H) (i : Nat) {v : V} {d : D} (r : Rep S (hid M H) v d) : Stt S B M (g.set i (.v d)) (t.set i (some v)) H where
  same := h.same
  sub := h.sub
  new := h.new
  trk := h.trk
  sl := fun j s hj => by
    by_cases e : i = j
    · subst e
      obtain ⟨hs, hl⟩ := set_get hj
      subst hs
      exact ⟨some v, List.getElem?_set_self (h.tlen hl), v, rfl, r⟩
    · rw [List.getElem?_set_ne e] at hj ⊢
      exact h.sl j s hj
  gh := h.gh
  apart := fun j k s u w hjk h1 h2 m1 m2 e1 e2 => by
    have n1 : i ≠ j := fun e => by
      subst e
      obtain ⟨hs, _⟩ := set_get h1
      subst hs
      cases m1
    have n2 : i ≠ k := fun e => by
      subst e
      obtain ⟨hs, _⟩ := set_get h2
      subst hs
      cases m2
    rw [List.getElem?_set_ne n1] at h1 e1
    rw [List.getElem?_set_ne n2] at h2 e2
    exact h.apart j k s u w hjk h1 h2 m1 m2 e1 e2
theorem RS.hide {p : Addr} (hp : H p = none) : ∀ {s : Sl} {o : Option V}, RS S B M H s o → RS S B (p :: M) H s o
  | .no, _, _ => True.intro
  | .v d, o, ⟨v, e1, r⟩ => ⟨v, e1, r.mono (hid_new hp)⟩
  | .own ds, o, ⟨l, vs, e1, m, m0, h0, hl, r⟩ => ⟨l, vs, e1, List.mem_cons_of_mem _ m, m0, h0, hl, r.mono (hid_new hp)⟩
  | .ob a dx c fs, o, ⟨e1, m, h0, ws, hl, r⟩ => ⟨e1, List.mem_cons_of_mem _ m, h0, ws, hl, r.mono (hid_new hp)⟩
  | .pi a dx vs, o, ⟨e1, m, m2, h0, h1, ne, hs, hd⟩ => ⟨e1, List.mem_cons_of_mem _ m, List.mem_cons_of_mem _ m2, h0, h1, ne, hs, hd⟩
  | .exc a dd c fs, o, ⟨e1, x⟩ => ⟨e1, fun h => let ⟨ws, hd, r⟩ := x h; ⟨ws, hd, r.mono (hid_new hp)⟩⟩
/-- the address of a thing of one's own -/
theorem RS.addr : ∀ {s : Sl} {o : Option V}, RS S B M H s o → s.mine = true → ∃ a, o = some (.ref a) ∧ a ∈ M
  | .exc a dd c fs, o, _, z => by cases z
  | .no, _, _, z => by cases z
  | .v d, o, _, z => by cases z
  | .own ds, o, ⟨l, vs, e1, m, _⟩, _ => ⟨l, e1, m⟩
  | .ob a dx c fs, o, ⟨e1, m, _⟩, _ => ⟨a, e1, m⟩
  | .pi a dx vs, o, ⟨e1, m, _⟩, _ => ⟨a, e1, m⟩
/-- a slot takes a new thing, which is one's own from now on -/
theorem Stt.setNew (h : Stt S B M g t H) (i : Nat) {p : Addr} {s' : Sl} (hp : H p = none) (e : Same H H') (hl : H' p ≠ none) (r : RS S B (p :: M) H' s' (some (.ref p))) : Stt S B (p :: M) (g.set i s') (t.set i (some (.ref p))) H' where
  same := h.same.trans e
  sub := fun a ha => List.mem_cons_of_mem _ (h.sub a ha)
  new := fun a ha => by
    rcases List.mem_cons.mp ha with z | z
    · exact .inr (by rw [z]; exact h.same.free hp)
    · exact h.new a z
  trk := fun a ha => by
    rcases List.mem_cons.mp ha with z | z
    · rw [z]; exact hl
    · exact (h.mono e).trk a z
  sl := fun j s hj => by
    by_cases q : i = j
    · subst q
      obtain ⟨q, hi⟩ := set_get hj
      subst q
      exact ⟨_, List.getElem?_set_self (h.tlen hi), r⟩
    · rw [List.getElem?_set_ne q] at hj ⊢
      obtain ⟨o, ho, rr⟩ := h.sl j s hj
      exact ⟨o, ho, (rr.hide hp).mono e⟩
  gh := B.gm _ _ (fun a o z => hid_same e a o (hid_new hp a o z)) h.gh
  apart := fun j k s u w hjk h1 h2 m1 m2 e1 e2 => by
    have key : ∀ {n : Nat} {u : Sl}, g[n]? = some u → u.mine = true → t[n]? = some (some (.ref p)) → False := fun {n u} q1 q2 q3 => by
      obtain ⟨o, ho, rr⟩ := h.sl n _ q1
      obtain ⟨a, ea, hm⟩ := rr.addr q2
      rw [q3, ea] at ho
      cases ho
      exact h.nm hp hm
    by_cases n1 : i = j
    · subst n1
      obtain ⟨_, hi⟩ := set_get h1
      rw [List.getElem?_set_self (h.tlen hi)] at e1
      cases e1
      rw [List.getElem?_set_ne hjk] at h2 e2
      exact key h2 m2 e2
    · rw [List.getElem?_set_ne n1] at h1 e1
      by_cases n2 : i = k
      · subst n2
        obtain ⟨_, hi⟩ := set_get h2
        rw [List.getElem?_set_self (h.tlen hi)] at e2
        cases e2
        exact key h1 m1 e1
      · rw [List.getElem?_set_ne n2] at h2 e2
        exact h.apart j k s u w hjk h1 h2 m1 m2 e1 e2
/-- a slot takes a new list -/
theorem Stt.setOwn (h : Stt S B M g t H) (i : Nat) {p : Addr} {vs : List V} {ds : List D} (hp : H p = none) (e : Same H H') (hl : H' p = some (.lst vs)) (r : Reps S (hid (p :: M) H') vs ds) :
    Stt S B (p :: M) (g.set i (.own ds)) (t.set i (some (.ref p))) H' :=
  h.setNew i hp e (by rw [hl]; intro z; cases z) ⟨p, vs, rfl, List.mem_cons_self, fun z => h.nm hp (h.sub p z), h.same.free hp, hl, r⟩
/-- an instance's slot -/
theorem Stt.setOb (h : Stt S B M g t H) (i : Nat) {p dx : Addr} {c : Nat} {ws : List (Str × V)} {fs : List (Str × D)} (hp : H p = none) (e : Same H H') (hl : H' p = some (.ins (S.cO c) dx ws)) (r : RepF S (hid (p :: M) H') ws fs) :
    Stt S B (p :: M) (g.set i (.ob p dx c fs)) (t.set i (some (.ref p))) H' :=
  h.setNew i hp e (by rw [hl]; intro z; cases z) ⟨rfl, List.mem_cons_self, h.same.free hp, ws, hl, r⟩
theorem Stt.own (h : Stt S B M g t H) {i : Nat} {ds : List D} (hi : g[i]? = some (.own ds)) : ∃ l vs, t[i]? = some (some (.ref l)) ∧ l ∈ M ∧ l ∉ B.M0 ∧ H l = some (.lst vs) ∧ Reps S (hid M H) vs ds := by
  obtain ⟨o, ho, l, vs, e, m, m0, h0, q⟩ := h.sl i _ hi
  exact ⟨l, vs, by rw [ho, e], m, m0, q⟩
/-- what may stand at an address that is changed -/
def Plain (o : HO) : Prop := (∀ x, o ≠ .own x) ∧ ∀ fs, o ≠ .xd fs
/-- a thing of one's own changes -/
theorem Stt.upAt (h : Stt S B M g t H) {i : Nat} {l : Addr} {s s' : Sl} {o o' : HO} (hi : g[i]? = some s) (hm' : s.mine = true) (ht : t[i]? = some (some (.ref l))) (hm : l ∈ M) (h0 : B.H0 l = none) (hl : H l = some o) (hp : Plain o)
    (r : RS S B M (upd H l o') s' (some (.ref l))) : Stt S B M (g.set i s') t (upd H l o') where
  same := fun a u q => by
    rw [upd_ne (ne_of_none q h0)]
    exact h.same _ _ q
  sub := h.sub
  new := h.new
  trk := fun a ha => by
    by_cases q : a = l
    · rw [q, upd_same]; intro z; cases z
    · rw [upd_ne q]; exact h.trk a ha
  sl := fun j u hj => by
    by_cases q : i = j
    · subst q
      obtain ⟨q, _⟩ := set_get hj
      subst q
      exact ⟨_, ht, r⟩
    · rw [List.getElem?_set_ne q] at hj
      obtain ⟨w, hw, rr⟩ := h.sl j u hj
      refine ⟨w, hw, ?_⟩
      have apart : ∀ a, u.mine = true → w = some (.ref a) → a ≠ l := fun a m e z => h.apart i j s u (.ref l) q hi hj hm' m ht (by rw [hw, e, z])
      cases u with
      | no => exact True.intro
      | v d =>
        obtain ⟨v, e1, r1⟩ := rr
        exact ⟨v, e1, by rw [hid_upd hm]; exact r1⟩
      | own ds' =>
        obtain ⟨l', vs', e1, m1, m2, z0, q1, q2⟩ := rr
        exact ⟨l', vs', e1, m1, m2, z0, by rw [upd_ne (apart l' rfl e1)]; exact q1, by rw [hid_upd hm]; exact q2⟩
      | ob a dx c fs =>
        obtain ⟨e1, m1, z0, ws, q1, q2⟩ := rr
        exact ⟨e1, m1, z0, ws, by rw [upd_ne (apart a rfl e1)]; exact q1, by rw [hid_upd hm]; exact q2⟩
      | pi a dx vs =>
        obtain ⟨e1, m1, m2, z0, z1, ne, hs, hd⟩ := rr
        have na : a ≠ l := apart a rfl e1
        have nd : dx ≠ l := fun z => by
          rcases hd with hd | hd
          · rw [z, hl] at hd; exact hp.1 a (Option.some.inj hd)
          · rw [z, hl] at hd; exact hp.2 _ (Option.some.inj hd)
        refine ⟨e1, m1, m2, z0, z1, ne, ?_, by rw [upd_ne nd]; exact hd⟩
        rcases hs with ⟨s1, s2⟩ | ⟨s1, s2⟩
        · exact .inl ⟨by rw [upd_ne na]; exact s1, s2⟩
        · exact .inr ⟨by rw [upd_ne na]; exact s1, by rw [upd_ne nd]; exact s2⟩
      | exc a dd c fs =>
        obtain ⟨e1, x⟩ := rr
        refine ⟨e1, fun hq => ?_⟩
        obtain ⟨ws, hd, r1⟩ := x hq
        have nd : dd ≠ l := fun z => by
          rw [z, hl] at hd
          exact hp.2 _ (Option.some.inj hd)
        exact ⟨ws, by rw [upd_ne nd]; exact hd, by rw [hid_upd hm]; exact r1⟩
  gh := by rw [hid_upd hm]; exact h.gh
  apart := fun j k u w z hjk h1 h2 m1 m2 e1 e2 => by
    have back : ∀ {n : Nat} {u : Sl}, (g.set i s')[n]? = some u → u.mine = true → ∃ y, g[n]? = some y ∧ y.mine = true := fun {n u} q qm => by
      by_cases z : i = n
      · subst z; exact ⟨s, hi, hm'⟩
      · rw [List.getElem?_set_ne z] at q; exact ⟨u, q, qm⟩
    obtain ⟨y1, q1, p1⟩ := back h1 m1
    obtain ⟨y2, q2, p2⟩ := back h2 m2
    exact h.apart j k y1 y2 z hjk q1 q2 p1 p2 e1 e2
theorem plain_lst {vs : List V} : Plain (.lst vs) := ⟨fun x z => (nomatch z), fun _ z => (nomatch z)⟩
theorem plain_ins {C dx : Addr} {fs : List (Str × V)} : Plain (.ins C dx fs) := ⟨fun x z => (nomatch z), fun _ z => (nomatch z)⟩
theorem Stt.upOwn (h : Stt S B M g t H) {i : Nat} {l : Addr} {ds es : List D} {vs ws : List V} (hi : g[i]? = some (.own ds)) (ht : t[i]? = some (some (.ref l))) (hm : l ∈ M) (h0 : l ∉ B.M0) (hl : H l = some (.lst vs))
    (r : Reps S (hid M H) ws es) : Stt S B M (g.set i (.own es)) t (upd H l (.lst ws)) := by
  have z : B.H0 l = none := (h.new l hm).elim (fun z => absurd z h0) id
  exact h.upAt hi rfl ht hm z hl plain_lst ⟨l, ws, rfl, hm, h0, z, upd_same, by rw [hid_upd hm]; exact r⟩
theorem Stt.upOb (h : Stt S B M g t H) {i : Nat} {a dx : Addr} {c : Nat} {fs fs' : List (Str × D)} {ws : List (Str × V)} (hi : g[i]? = some (.ob a dx c fs)) (r : RepF S (hid M H) ws fs') :
    Stt S B M (g.set i (.ob a dx c fs')) t (upd H a (.ins (S.cO c) dx ws)) := by
  obtain ⟨o, ho, e1, m, h0, ws0, hl, _⟩ := h.sl i _ hi
  exact h.upAt hi rfl (by rw [ho, e1]) m h0 hl plain_ins ⟨rfl, m, h0, ws, upd_same, by rw [hid_upd m]; exact r⟩
/-- one's own list is a value from now on -/
theorem Stt.freeze (h : Stt S B M g t H) {i : Nat} {ds : List D} (hi : g[i]? = some (.own ds)) : ∃ M', Stt S B M' (g.set i (.v (.lst ds))) t H := by
  obtain ⟨l, vs, ht, hm, h0, hl, r⟩ := h.own hi
  have hs : ∀ b ∈ M.filter (fun a => decide (a ≠ l)), b ∈ M := fun b hb => (List.mem_filter.mp hb).1
  have hn : l ∉ M.filter (fun a => decide (a ≠ l)) := fun z => by
    have := (List.mem_filter.mp z).2
    simp at this
  have hin : ∀ a, a ∈ M → a ≠ l → a ∈ M.filter (fun a => decide (a ≠ l)) := fun a ha q => List.mem_filter.mpr ⟨ha, decide_eq_true q⟩
  refine ⟨M.filter (fun a => decide (a ≠ l)), ⟨h.same, fun a ha => hin a (h.sub a ha) (fun z => h0 (z ▸ ha)), fun a ha => h.new a (hs a ha), fun a ha => h.trk a (hs a ha), fun j s hj => ?_, B.gm _ _ (hid_sub hs) h.gh, fun j k s u w hjk h1 h2 m1 m2 e1 e2 => ?_⟩⟩
  · by_cases q : i = j
    · subst q
      obtain ⟨q, _⟩ := set_get hj
      subst q
      exact ⟨_, ht, .ref l, rfl, .lst (SqL.of (hid_of hn hl)) (r.mono (hid_sub hs))⟩
    · rw [List.getElem?_set_ne q] at hj
      obtain ⟨o, ho, rr⟩ := h.sl j s hj
      refine ⟨o, ho, ?_⟩
      have apart : ∀ a, s.mine = true → o = some (.ref a) → a ≠ l := fun a m e z => h.apart i j (.own ds) s (.ref l) q hi hj rfl m ht (by rw [ho, e, z])
      cases s with
      | no => exact True.intro
      | v d =>
        obtain ⟨v, e1, r1⟩ := rr
        exact ⟨v, e1, r1.mono (hid_sub hs)⟩
      | own ds' =>
        obtain ⟨l', vs', e1, m1, m2, z0, q1, q2⟩ := rr
        exact ⟨l', vs', e1, hin _ m1 (apart l' rfl e1), m2, z0, q1, q2.mono (hid_sub hs)⟩
      | ob a dx c fs =>
        obtain ⟨e1, m1, z0, ws, q1, q2⟩ := rr
        exact ⟨e1, hin _ m1 (apart a rfl e1), z0, ws, q1, q2.mono (hid_sub hs)⟩
      | pi a dx vs =>
        obtain ⟨e1, m1, m2, z0, z1, ne, q1, q2⟩ := rr
        have nd : dx ≠ l := fun z => by
          rcases q2 with hd | hd
          · rw [z, hl] at hd; cases hd
          · rw [z, hl] at hd; cases hd
        exact ⟨e1, hin _ m1 (apart a rfl e1), hin _ m2 nd, z0, z1, ne, q1, q2⟩
      | exc a dd c fs =>
        obtain ⟨e1, x⟩ := rr
        exact ⟨e1, fun hq => let ⟨ws, hd, r1⟩ := x hq; ⟨ws, hd, r1.mono (hid_sub hs)⟩⟩
  · have n1 : i ≠ j := fun z => by
      subst z
      obtain ⟨q, _⟩ := set_get h1
      subst q
      cases m1
    have n2 : i ≠ k := fun z => by
      subst z
      obtain ⟨q, _⟩ := set_get h2
      subst q
      cases m2
    rw [List.getElem?_set_ne n1] at h1
    rw [List.getElem?_set_ne n2] at h2
    exact h.apart j k s u w hjk h1 h2 m1 m2 e1 e2
/-- a slot that is not one's own changes: what is known of it -/
theorem Stt.put (h : Stt S B M g t H) (i : Nat) {s : Sl} {o : Option V} (hm : s.mine = false) (r : RS S B M H s o) : Stt S B M (g.set i s) (t.set i o) H where
  same := h.same
  sub := h.sub
  new := h.new
  trk := h.trk
  sl := fun j u hj => by
    by_cases e : i = j
    · subst e
      obtain ⟨hs, hl⟩ := set_get hj
      subst hs
      exact ⟨o, List.getElem?_set_self (h.tlen hl), r⟩
    · rw [List.getElem?_set_ne e] at hj ⊢
      exact h.sl j u hj
  gh := h.gh
  apart := fun j k s' u w hjk h1 h2 m1 m2 e1 e2 => by
    have n1 : i ≠ j := fun e => by
      subst e
      obtain ⟨hs, _⟩ := set_get h1
      subst hs
      rw [hm] at m1
      cases m1
    have n2 : i ≠ k := fun e => by
      subst e
      obtain ⟨hs, _⟩ := set_get h2
      subst hs
      rw [hm] at m2
      cases m2
    rw [List.getElem?_set_ne n1] at h1 e1
    rw [List.getElem?_set_ne n2] at h2 e2
    exact h.apart j k s' u w hjk h1 h2 m1 m2 e1 e2
/-- the entry's hidden part is less than the body's -/
theorem Stt.out (h : Stt S B M g t H) : Same (hid M H) (hid B.M0 H) := hid_sub h.sub
end
end Fw

set_option Elab.async false
set_option linter.all false
set_option maxRecDepth 100000
set_option maxHeartbeats 4000000
namespace Fw
open PySem L2

/-! ### the judgements -/
/-- what stands around: fixed through a law -/
structure Wd where
  P : Program
  w : World
  K : PySem.W.Frag
  mg : Str → Option Value
  base : Heap
def wdOf (X : Cx) : Wd := ⟨X.prog, X.w, X.K, X.mg, X.base⟩

/-- a body's context: its world; no exception is being handled (Cc), or one is (Hc); room for calls -/
structure Kb (X : Cx) (W : Wd) (S : Sg) : Prop where
  wd : wdOf X = W
  K : W.K = S.K
  own : PassesOwn (model X.prog X.w) X.A X.env X.xe
  nd : X.N.Nodup
structure Cc (X : Cx) (W : Wd) (S : Sg) (k : Nat) : Prop extends Kb X W S where
  calm : X.calm = true
  room : Room k X.A
structure Hc (X : Cx) (W : Wd) (S : Sg) (k : Nat) : Prop extends Kb X W S where
  hot : L2H.HotC X
  roomH : L2H.RoomH k X.A
/-- the i-th name -/
structure Nm (X : Cx) (i : Nat) (x : Str) : Prop where
  n : X.N[i]? = some x
  vis : Vis X.env.scope x
  dbg : (x == ("__debug__" : Str)) = false
  cdt : (x == ("__classdict__" : Str)) = false
/-- .. that may be stored -/
structure Nl (X : Cx) (i : Nat) (x : Str) : Prop where
  n : X.N[i]? = some x
  loc : Loc X.env.scope x
  fn : X.fn x = true ∨ X.env.scope.names.lookup x = some .local
/-- a global name -/
structure Ng (X : Cx) (x : Str) : Prop where
  gl : Gl X x
  dbg : (x == ("__debug__" : Str)) = false

/-- what is wanted behind a statement; ex: which errors may leave -/
structure Po where
  nx : En → Prop
  rt : D → Prop
  bk : En → Prop := fun _ => False
  ct : En → Prop := fun _ => False
  ex : Nat → List (Str × D) → En → Prop := fun _ _ _ => False
  rn : D → Prop := fun _ => False

/-- p stands for d, and p itself is new -/
def NewAt (S : Sg) (M : List Addr) (H : Hp) (p : Addr) : D → Prop
  | .lst ds => ∃ vs, H p = some (.lst vs) ∧ Reps S (hid (p :: M) H) vs ds
  | .obj c fs => ∃ dx ws, H p = some (.ins (S.cO c) dx ws) ∧ RepF S (hid (p :: M) H) ws fs
  | _ => False
theorem NewAt.rep {S : Sg} {M : List Addr} {H : Hp} {p : Addr} {d : D} (hp : p ∉ M) (h : NewAt S M H p d) : Rep S (hid M H) (.ref p) d := by
  cases d with
  | lst ds =>
    obtain ⟨vs, h1, r⟩ := h
    exact .lst (SqL.of (hid_of hp h1)) (r.mono (hid_sub fun b hb => List.mem_cons_of_mem _ hb))
  | obj c fs =>
    obtain ⟨dx, ws, h1, r⟩ := h
    exact .obj (hid_of hp h1) (r.mono (hid_sub fun b hb => List.mem_cons_of_mem _ hb))
  | _ => exact h.elim
theorem NewAt.less {S : Sg} {M M' : List Addr} {H : Hp} {p : Addr} {d : D} (hs : ∀ b ∈ M', b ∈ M) (h : NewAt S M H p d) : NewAt S M' H p d := by
  have hs' : ∀ b ∈ p :: M', b ∈ p :: M := fun b hb => (List.mem_cons.mp hb).elim (fun z => z ▸ List.mem_cons_self) fun z => List.mem_cons_of_mem _ (hs b z)
  cases d with
  | lst ds =>
    obtain ⟨vs, h1, r⟩ := h
    exact ⟨vs, h1, r.mono (hid_sub hs')⟩
  | obj c fs =>
    obtain ⟨dx, ws, h1, r⟩ := h
    exact ⟨dx, ws, h1, r.mono (hid_sub hs')⟩
  | _ => exact h.elim

structure Ct (S : Sg) (B : Bs) (U : WX) (P : Po) (E : Ends) : Prop where
  nx : ∀ g M t H, P.nx g → Stt S B M g t H → E.nx t H
  rt : ∀ v H d, P.rt d → Same B.H0 H → Rep S (hid B.M0 H) v d → E.rt v H
  bk : ∀ g M t H, P.bk g → Stt S B M g t H → E.bk t H
  ct : ∀ g M t H, P.ct g → Stt S B M g t H → E.ct t H
  rn : ∀ p H d, P.rn d → Same B.H0 H → B.H0 p = none → NewAt S B.M0 H p d → E.rt (.ref p) H
/-- the dict of an error: none where it has no attributes -/
def dOf : List (Str × D) → Addr → Option Addr
  | [], _ => none
  | _ :: _, dx => some dx
theorem dOf_some {fs : List (Str × D)} {dx : Addr} (h : fs ≠ []) : dOf fs dx = some dx := by
  cases fs with
  | nil => exact absurd rfl h
  | cons _ _ => rfl
/-- what is known of it -/
def Xd (S : Sg) (H0 H : Hp) (M : List Addr) (fs : List (Str × D)) (dx : Addr) (ws : List (Str × V)) : Prop := fs ≠ [] → H0 dx = none ∧ H dx = some (.xd ws) ∧ RepF S (hid M H) ws fs
theorem Xd.back {S : Sg} {H0 H1 H : Hp} {M : List Addr} {fs : List (Str × D)} {dx : Addr} {ws : List (Str × V)} (x : Xd S H1 H M fs dx ws) (e : Same H0 H1) : Xd S H0 H M fs dx ws := fun h => let ⟨a, b, c⟩ := x h; ⟨e.free a, b, c⟩
/-- the errors that may leave reach the wish U -/
def Cx' (S : Sg) (B : Bs) (U : WX) (P : Po) : Prop := ∀ c fs dx ws g M t H, P.ex c fs g → Stt S B M g t H → Xd S B.H0 H M fs dx ws → U (.ref (S.cX c)) (dOf fs dx) t H

def XE (X : Cx) (S : Sg) (g : En) (e : Expr) (d : D) : Prop := PE X e fun t H Q => ∃ B M, Stt S B M g t H ∧ ∀ v H', Same H H' → Rep S (hid M H') v d → Q v H'
/-- a new list -/
def XN (X : Cx) (S : Sg) (g : En) (e : Expr) (ds : List D) : Prop := PE X e fun t H Q => ∃ B M, Stt S B M g t H ∧ ∀ p vs H', H p = none → Same H H' → H' p = some (.lst vs) → Reps S (hid (p :: M) H') vs ds → Q (.ref p) H'
def XT (X : Cx) (S : Sg) (g : En) (e : Expr) (b : Bool) : Prop := PT X e fun t H Q => ∃ B M, Stt S B M g t H ∧ ∀ H', Same H H' → Q b H'
def XW (X : Cx) (S : Sg) (g : En) (e : Expr) (b : Bool) : Prop := PW X e fun t H Q => ∃ B M, Stt S B M g t H ∧ ∀ H', Same H H' → Q b H'
def XA (X : Cx) (S : Sg) (g : En) (es : List Expr) (ds : List D) : Prop := PA X es fun t H Q => ∃ B M, Stt S B M g t H ∧ ∀ vs H', Same H H' → Reps S (hid M H') vs ds → Q vs H'
def XS (X : Cx) (S : Sg) (U : WX) (g : En) (st : Stmt) (P : Po) : Prop := PS X st fun E t H => ∃ B M, Stt S B M g t H ∧ Ct S B U P E ∧ Cx' S B U P
def XB (X : Cx) (S : Sg) (U : WX) (g : En) (sts : List Stmt) (P : Po) : Prop := PSs X sts fun E t H => ∃ B M, Stt S B M g t H ∧ Ct S B U P E ∧ Cx' S B U P
/-- a target takes d: the slots behind it -/
def XG (X : Cx) (S : Sg) (g : En) (tg : Expr) (d : D) (g' : En) : Prop := PG X tg fun v t H Q => ∃ B M, Stt S B M g t H ∧ Rep S (hid M H) v d ∧ ∀ t', Stt S B M g' t' H → Q t' H
def XGs (X : Cx) (S : Sg) (g : En) (tgs : List Expr) (ds : List D) (g' : En) : Prop := PGs X tgs fun vs t H Q => ∃ B M, Stt S B M g t H ∧ Reps S (hid M H) vs ds ∧ ∀ t', Stt S B M g' t' H → Q t' H

section
variable {X : Cx} {e : Expr} {st : Stmt} {sts : List Stmt} {es : List Expr} {t t' : TE} {u u' : TT} {a a' : TA} {s s' : TS} {gg gg' : TG} {hh hh' : TGs}
theorem peI (h : PE X e t) (k : ∀ σ H Q, t' σ H Q → t σ H Q) : PE X e t' := ⟨fun pins s σ H Q I w => h.run pins s σ H Q I (k _ _ _ w)⟩
theorem ptI (h : PT X e u) (k : ∀ σ H Q, u' σ H Q → u σ H Q) : PT X e u' := ⟨fun pins s σ H Q I w => h.run pins s σ H Q I (k _ _ _ w)⟩
theorem pwI (h : PW X e u) (k : ∀ σ H Q, u' σ H Q → u σ H Q) : PW X e u' := ⟨fun wh pins s σ H Q I w => h.run wh pins s σ H Q I (k _ _ _ w)⟩
theorem paI (h : PA X es a) (k : ∀ σ H Q, a' σ H Q → a σ H Q) : PA X es a' := ⟨fun pos pins s σ H Q I w => h.run pos pins s σ H Q I (k _ _ _ w)⟩
theorem psI (h : PS X st s) (k : ∀ E σ H, s' E σ H → s E σ H) : PS X st s' := ⟨fun pins q σ H E I w => h.run pins q σ H E I (k _ _ _ w)⟩
theorem psbI (h : PSs X sts s) (k : ∀ E σ H, s' E σ H → s E σ H) : PSs X sts s' := ⟨fun pins q σ H E I w => h.run pins q σ H E I (k _ _ _ w)⟩
theorem pgI (h : PG X e gg) (k : ∀ v σ H Q, gg' v σ H Q → gg v σ H Q) : PG X e gg' := ⟨fun pins q σ H v u Q I r w => h.run pins q σ H v u Q I r (k _ _ _ _ w)⟩
theorem pgsI (h : PGs X es hh) (k : ∀ v σ H Q, hh' v σ H Q → hh v σ H Q) : PGs X es hh' := ⟨fun pins q σ H v u Q I r w => h.run pins q σ H v u Q I r (k _ _ _ _ w)⟩
end

/-! ### operations by data -/
abbrev RD (S : Sg) (das : List D) (d : D) : List V → Hp → VK → Prop := fun xs H Q => ∃ M, (∀ a ∈ M, H a ≠ none) ∧ Reps S (hid M H) xs das ∧ ∀ v H', Same H H' → Rep S (hid M H') v d → Q v H'
/-- a two-place operation on values -/
def BinD (X : Cx) (S : Sg) (f : Value → Value → Sem Value) (da db d : D) : Prop := OpR X f fun x y H Q => RD S [da, db] d [x, y] H Q
def UnD (X : Cx) (S : Sg) (f : Value → Sem Value) (da d : D) : Prop := UnR X f fun x H Q => RD S [da] d [x] H Q
def CallD (X : Cx) (S : Sg) (f : Value) (das : List D) (d : D) : Prop := CallR X f fun xs H Q => RD S das d xs H Q
def IxD (X : Cx) (S : Sg) (da db d : D) : Prop := IxR X fun x y H Q => RD S [da, db] d [x, y] H Q

section
variable {X : Cx} {W : Wd} {S : Sg} {k : Nat} {g g' g'' : En} {e a b c : Expr} {es : List Expr} {d da db dc : D} {ds das : List D} {pos p p' : Pos} {x : Str} {i j : Nat} {m n : Int} {bb b1 b2 : Bool}

/-! ### expressions -/
theorem e_var (N : Nm X i x) (h : g[i]? = some (.v d)) : XE X S g (.Name x pos) d :=
  peI (pe_var N.n N.vis N.dbg N.cdt) fun σ H Q ⟨B, M, st, k⟩ => let ⟨v, e, r⟩ := st.var h; ⟨v, e, k v H (Same.refl H) r⟩
theorem e_int : XE X S g (.Constant (.int m) j pos) (.int m) := peI pe_int fun σ H Q ⟨B, M, st, k⟩ => k _ H (Same.refl H) (.int m)
theorem e_bl : XE X S g (.Constant (.bool bb) j pos) (.bl bb) := peI pe_bl fun σ H Q ⟨B, M, st, k⟩ => k _ H (Same.refl H) (.bl bb)
theorem e_non : XE X S g (.Constant .none j pos) .non := peI pe_non fun σ H Q ⟨B, M, st, k⟩ => k _ H (Same.refl H) .non
theorem e_str : XE X S g (.Constant (.str x) j pos) (.str x) := peI pe_str fun σ H Q ⟨B, M, st, k⟩ => k _ H (Same.refl H) (.str x)
theorem e_bin {op : Operator} (ha : XE X S g a da) (hb : XE X S g b db) (ho : BinD X S (binaryOp op) da db d) : XE X S g (.BinOp a op b pos) d :=
  peI (pe_op ho ha hb) fun σ H Q ⟨B, M, st, k⟩ => ⟨B, M, st, fun v H1 e1 r1 => ⟨B, M, st.mono e1, fun u H2 e2 r2 => ⟨M, (st.mono (e1.trans e2)).trk, .cons (r1.mono (hid_same e2)) (.cons r2 .nil), fun w H3 e3 r3 => k w H3 ((e1.trans e2).trans e3) r3⟩⟩⟩
theorem e_un {op : UnaryOp} (ha : XE X S g a da) (ho : UnD X S (unaryOp op) da d) : XE X S g (.UnaryOp op a pos) d :=
  peI (pe_un ho ha) fun σ H Q ⟨B, M, st, k⟩ => ⟨B, M, st, fun v H1 e1 r1 => ⟨M, (st.mono e1).trk, .cons r1 .nil, fun w H3 e3 r3 => k w H3 (e1.trans e3) r3⟩⟩
theorem e_cmp {op : CmpOp} (ha : XE X S g a da) (hb : XE X S g b db) (ho : BinD X S (compareOp op) da db d) (hm : behindInMarks op b = false := by first | exact nomark _ | with_unfolding_all rfl) : XE X S g (.Compare a [op] [b] pos) d :=
  peI (pe_cmpR ho ha hb hm) fun σ H Q ⟨B, M, st, k⟩ => ⟨B, M, st, fun v H1 e1 r1 => ⟨B, M, st.mono e1, fun u H2 e2 r2 => ⟨M, (st.mono (e1.trans e2)).trk, .cons (r1.mono (hid_same e2)) (.cons r2 .nil), fun w H3 e3 r3 => k w H3 ((e1.trans e2).trans e3) r3⟩⟩⟩
theorem e_chain {op op' : CmpOp} (ha : XE X S g a da) (hb : XE X S g b db) (hc : XE X S g c dc) (ho : BinD X S (compareOp op) da db (.bl b1)) (ho' : BinD X S (compareOp op') db dc (.bl b2))
    (hm : lastMarks [op, op'] [b, c] = false := by with_unfolding_all rfl) : XE X S g (.Compare a [op, op'] [b, c] pos) (.bl (b1 && b2)) :=
  peI (pe_chain ho ho' ha hb hc hm) fun σ H Q ⟨B, M, st, k⟩ => ⟨B, M, st, fun v H1 e1 r1 => ⟨B, M, st.mono e1, fun u H2 e2 r2 => ⟨M, (st.mono (e1.trans e2)).trk, .cons (r1.mono (hid_same e2)) (.cons r2 .nil), fun w H3 e3 r3 => by
    cases r3
    refine ⟨b1, rfl, ?_⟩
    cases b1 with
    | true => exact ⟨B, M, st.mono ((e1.trans e2).trans e3), fun z H4 e4 r4 => ⟨M, (st.mono (((e1.trans e2).trans e3).trans e4)).trk, .cons (r2.mono (hid_same (e3.trans e4))) (.cons r4 .nil), fun w H5 e5 r5 => k w H5 ((((e1.trans e2).trans e3).trans e4).trans e5) r5⟩⟩
    | false => exact k _ H3 ((e1.trans e2).trans e3) (.bl false)⟩⟩⟩
theorem e_if {tc : Bool} (hc : XT X S g c tc) (ha : tc = true → XE X S g a d) (hb : tc = false → XE X S g b d) : XE X S g (.IfExp c a b pos) d := by
  cases tc with
  | true => exact peI (pe_ifExp hc (ha rfl) (tb := fun _ _ _ => False) ⟨fun _ _ _ _ _ _ z => z.elim⟩) fun σ H Q ⟨B, M, st, k⟩ => ⟨B, M, st, fun H1 e1 => by refine iteT ?_; exact ⟨B, M, st.mono e1, fun v H2 e2 r => k v H2 (e1.trans e2) r⟩⟩
  | false => exact peI (pe_ifExp hc (ta := fun _ _ _ => False) ⟨fun _ _ _ _ _ _ z => z.elim⟩ (hb rfl)) fun σ H Q ⟨B, M, st, k⟩ => ⟨B, M, st, fun H1 e1 => by refine iteF ?_; exact ⟨B, M, st.mono e1, fun v H2 e2 r => k v H2 (e1.trans e2) r⟩⟩
theorem a_nil : XA X S g [] [] := paI pa_nil fun σ H Q ⟨B, M, st, k⟩ => k [] H (Same.refl H) .nil
theorem a_cons (h : XE X S g e d) (t : XA X S g es ds) (hs : starEach (e :: es) X.env = (false, eval e X.env) :: starEach es X.env := by rfl) : XA X S g (e :: es) (d :: ds) :=
  paI (pa_cons h t hs) fun σ H Q ⟨B, M, st, k⟩ => ⟨B, M, st, fun v H1 e1 r1 => ⟨B, M, st.mono e1, fun vs H2 e2 r2 => k _ H2 (e1.trans e2) (.cons (r1.mono (hid_same e2)) r2)⟩⟩
theorem XA.len (hl : ds.length ≤ 100000) {vs : List V} {H : Hp} (r : Reps S H vs ds) : vs.length ≤ sizeLine := by
  rw [r.length]
  exact Evl.sz_of hl
theorem e_tup {z : Nat} (h : XA X S g es ds) (hl : ds.length ≤ 100000 := by decide) : XE X S g (.Tuple es z pos) (.tup ds) :=
  peI (pe_tup h) fun σ H Q ⟨B, M, st, k⟩ => ⟨B, M, st, fun vs H1 e1 r => ⟨XA.len hl r, fun p hp => k _ _ (e1.trans (same_upd hp)) (.tup (SqT.of (hid_of ((st.mono e1).nm hp) upd_same)) (r.mono (hid_same (same_upd hp))))⟩⟩
theorem n_lst (h : XA X S g es ds) (hl : ds.length ≤ 100000 := by decide) : XN X S g (.List es pos) ds :=
  peI (pe_lst h) fun σ H Q ⟨B, M, st, k⟩ => ⟨B, M, st, fun vs H1 e1 r => ⟨XA.len hl r, fun p hp => k p vs _ (e1.free hp) (e1.trans (same_upd hp)) upd_same (by
    rw [hid_upd List.mem_cons_self]
    exact r.mono (hid_new hp))⟩⟩
theorem n_e (h : XN X S g e ds) : XE X S g e (.lst ds) :=
  peI h fun σ H Q ⟨B, M, st, k⟩ => ⟨B, M, st, fun p vs H1 hp e1 hl r => k _ H1 e1 (.lst (SqL.of (hid_of (st.nm hp) hl)) (r.mono (hid_sub fun b hb => List.mem_cons_of_mem _ hb)))⟩
theorem e_ix (ha : XE X S g a da) (hb : XE X S g b db) (ho : IxD X S da db d) (hs : PlainIx b := by exact fun _ _ => rfl) : XE X S g (.Subscript a b pos) d :=
  peI (pe_ix ho ha hb hs) fun σ H Q ⟨B, M, st, k⟩ => ⟨B, M, st, fun v H1 e1 r1 => ⟨B, M, st.mono e1, fun u H2 e2 r2 => ⟨M, (st.mono (e1.trans e2)).trk, .cons (r1.mono (hid_same e2)) (.cons r2 .nil), fun w H3 e3 r3 => k w H3 ((e1.trans e2).trans e3) r3⟩⟩⟩
/-- a built-in function by its name -/
theorem e_callB {id : String} (C : CallD X S (.builtin id) das d) (G : Ng X x) (hm : X.mg x = none) (hv : bootBuiltins x = some (.builtin id)) (ha : XA X S g (e :: es) das) (hn : x ≠ "__name__" := by decide)
    (he : starEach (e :: es) X.env = (false, eval e X.env) :: starEach es X.env := by rfl) (hpl : (backTo pos (starEach es X.env)).any (·.1) = false := by rfl) : XE X S g (.Call (.Name x p) (e :: es) [] pos) d :=
  peI (pe_callB C G.gl hm hv ha hn G.dbg he hpl) fun σ H Q ⟨B, M, st, k⟩ => ⟨B, M, st, fun vs H1 e1 r => ⟨M, (st.mono e1).trk, r, fun v H2 e2 r2 => k v H2 (e1.trans e2) r2⟩⟩
theorem e_callT {T : String} (C : CallD X S (.type T) das d) (G : Ng X x) (hm : X.mg x = none) (hv : bootBuiltins x = some (.type T)) (ha : XA X S g (e :: es) das) (hn : x ≠ "__name__" := by decide)
    (he : starEach (e :: es) X.env = (false, eval e X.env) :: starEach es X.env := by rfl) (hpl : (backTo pos (starEach es X.env)).any (·.1) = false := by rfl) : XE X S g (.Call (.Name x p) (e :: es) [] pos) d :=
  peI (pe_callTy C G.gl hm hv ha hn G.dbg he hpl) fun σ H Q ⟨B, M, st, k⟩ => ⟨B, M, st, fun vs H1 e1 r => ⟨M, (st.mono e1).trk, r, fun v H2 e2 r2 => k v H2 (e1.trans e2) r2⟩⟩

/-! ### tests -/
theorem t_cmp {op : CmpOp} (ha : XE X S g a da) (hb : XE X S g b db) (ho : BinD X S (compareOp op) da db (.bl bb)) (hm : behindInMarks op b = false := by first | exact nomark _ | with_unfolding_all rfl) : XT X S g (.Compare a [op] [b] pos) bb :=
  ptI (pt_cmpR ho ha hb hm) fun σ H Q ⟨B, M, st, k⟩ => ⟨B, M, st, fun v H1 e1 r1 => ⟨B, M, st.mono e1, fun u H2 e2 r2 => ⟨M, (st.mono (e1.trans e2)).trk, .cons (r1.mono (hid_same e2)) (.cons r2 .nil), fun w H3 e3 r3 => by
    cases r3
    exact ⟨bb, rfl, k H3 ((e1.trans e2).trans e3)⟩⟩⟩⟩
theorem t_chain {op op' : CmpOp} (ha : XE X S g a da) (hb : XE X S g b db) (hc : XE X S g c dc) (ho : BinD X S (compareOp op) da db (.bl b1)) (ho' : BinD X S (compareOp op') db dc (.bl b2))
    (hm : lastMarks [op, op'] [b, c] = false := by with_unfolding_all rfl) : XT X S g (.Compare a [op, op'] [b, c] pos) (b1 && b2) :=
  ptI (pt_chain ho ho' ha hb hc hm) fun σ H Q ⟨B, M, st, k⟩ => ⟨B, M, st, fun v H1 e1 r1 => ⟨B, M, st.mono e1, fun u H2 e2 r2 => ⟨M, (st.mono (e1.trans e2)).trk, .cons (r1.mono (hid_same e2)) (.cons r2 .nil), fun w H3 e3 r3 => by
    cases r3
    refine ⟨b1, rfl, ?_⟩
    cases b1 with
    | true => exact ⟨B, M, st.mono ((e1.trans e2).trans e3), fun z H4 e4 r4 => ⟨M, (st.mono (((e1.trans e2).trans e3).trans e4)).trk, .cons (r2.mono (hid_same (e3.trans e4))) (.cons r4 .nil), fun w H5 e5 r5 => by
        cases r5
        exact ⟨b2, rfl, k H5 ((((e1.trans e2).trans e3).trans e4).trans e5)⟩⟩⟩
    | false => exact ⟨false, rfl, k H3 ((e1.trans e2).trans e3)⟩⟩⟩⟩
theorem t_val (h : XE X S g e (.bl bb)) (he : ∀ whole, isTrue e X.env whole = (do let v ← whole; standAt e.pos; holding [v] (truthy v)) := by exact fun _ => rfl) : XT X S g e bb :=
  ptI (pt_val h he) fun σ H Q ⟨B, M, st, k⟩ => ⟨B, M, st, fun v H1 e1 r => by
    cases r
    exact ⟨bb, rfl, k H1 e1⟩⟩
/-- truth by data -/
def truD : D → Option Bool
  | .non => some false
  | .bl b => some b
  | .int i => some (i != 0)
  | .tup xs => some (!xs.isEmpty)
  | .lst xs => some (!xs.isEmpty)
  | _ => none
theorem reps_empty {H : Hp} {vs : List V} (r : Reps S H vs ds) : vs.isEmpty = ds.isEmpty := by
  cases r <;> rfl
theorem tru_of {H : Hp} {v : V} (r : Rep S H v d) (h : truD d = some bb) : TruV S.K v H bb := by
  cases r with
  | non => exact (Option.some.inj h).symm
  | bl b => exact (Option.some.inj h).symm
  | int i => exact (Option.some.inj h).symm
  | str x => cases h
  | tup hq r =>
    refine .inr (.inl ⟨_, hq, ?_⟩)
    rw [reps_empty r]
    exact (Option.some.inj h).symm
  | lst hq r =>
    refine .inl ⟨_, hq, ?_⟩
    rw [reps_empty r]
    exact (Option.some.inj h).symm
  | pt => cases h
  | obj => cases h
theorem truV_mono {H H' : Hp} {v : V} (e : Same H H') (h : TruV S.K v H bb) : TruV S.K v H' bb := by
  cases v with
  | ref p =>
    rcases h with ⟨xs, q, e1⟩ | ⟨xs, q, e1⟩ | ⟨kvs, q, e1⟩
    · exact .inl ⟨xs, Evl.ex_l e q, e1⟩
    · exact .inr (.inl ⟨xs, Evl.ex_t e q, e1⟩)
    · exact .inr (.inr ⟨kvs, e _ _ q, e1⟩)
  | non => exact h
  | bl b => exact h
  | int i => exact h
  | str x => exact h
  | byt x => exact h
  | flt x => exact h
  | ty x => exact h
theorem t_tru (C : Kb X W S) (h : XE X S g e d) (hd : truD d = some bb) (he : ∀ whole, isTrue e X.env whole = (do let v ← whole; standAt e.pos; holding [v] (truthy v)) := by exact fun _ => rfl) : XT X S g e bb :=
  ptI (pt_truth h he) fun σ H Q ⟨B, M, st, k⟩ => ⟨B, M, st, fun v H1 e1 r => ⟨bb, by
    have z : X.K = S.K := (congrArg Wd.K C.wd).trans C.K
    rw [z]
    exact truV_mono hid_le (tru_of r hd), k H1 e1⟩⟩
theorem t_not (h : XT X S g e bb) : XT X S g (.UnaryOp .Not e pos) (!bb) := ptI (pt_not h) fun σ H Q ⟨B, M, st, k⟩ => ⟨B, M, st, fun H1 e1 => k H1 e1⟩
theorem w_and1 (h : XT X S g e bb) : XW X S g (.BoolOp .And [e] pos) bb := pw_and1 h
theorem w_or1 (h : XT X S g e bb) : XW X S g (.BoolOp .Or [e] pos) bb := pw_or1 h
theorem w_and (h1 : XT X S g a b1) (h2 : b1 = true → XW X S g (.BoolOp .And (b :: es) pos) b2) : XW X S g (.BoolOp .And (a :: b :: es) pos) (b1 && b2) := by
  cases b1 with
  | true => exact pwI (pw_and h1 (h2 rfl)) fun σ H Q ⟨B, M, st, k⟩ => ⟨B, M, st, fun H1 e1 => by refine iteT ?_; exact ⟨B, M, st.mono e1, fun H2 e2 => k H2 (e1.trans e2)⟩⟩
  | false => exact pwI (pw_and h1 (tB' := fun _ _ _ => False) ⟨fun _ _ _ _ _ _ _ z => z.elim⟩) fun σ H Q ⟨B, M, st, k⟩ => ⟨B, M, st, fun H1 e1 => by refine iteF ?_; exact k H1 e1⟩
theorem w_or (h1 : XT X S g a b1) (h2 : b1 = false → XW X S g (.BoolOp .Or (b :: es) pos) b2) : XW X S g (.BoolOp .Or (a :: b :: es) pos) (b1 || b2) := by
  cases b1 with
  | false => exact pwI (pw_or h1 (h2 rfl)) fun σ H Q ⟨B, M, st, k⟩ => ⟨B, M, st, fun H1 e1 => by refine iteF ?_; exact ⟨B, M, st.mono e1, fun H2 e2 => k H2 (e1.trans e2)⟩⟩
  | true => exact pwI (pw_or h1 (tB' := fun _ _ _ => False) ⟨fun _ _ _ _ _ _ _ z => z.elim⟩) fun σ H Q ⟨B, M, st, k⟩ => ⟨B, M, st, fun H1 e1 => by refine iteT ?_; exact k H1 e1⟩
theorem t_w (h : XW X S g e bb) : XT X S g e bb := h.pt
/-- and, or as values (bools) -/
theorem e_one {op : BoolOp} (h : XE X S g e d) : XE X S g (.BoolOp op [e] pos) d := pe_one h
theorem e_and (h1 : XE X S g a (.bl b1)) (h2 : b1 = true → XE X S g (.BoolOp .And (b :: es) pos) (.bl b2)) : XE X S g (.BoolOp .And (a :: b :: es) pos) (.bl (b1 && b2)) := by
  cases b1 with
  | true => exact peI (pe_and h1 (h2 rfl)) fun σ H Q ⟨B, M, st, k⟩ => ⟨B, M, st, fun v H1 e1 r => by
      cases r
      refine ⟨true, rfl, ?_⟩
      refine iteT ?_
      exact ⟨B, M, st.mono e1, fun v2 H2 e2 r2 => k v2 H2 (e1.trans e2) r2⟩⟩
  | false => exact peI (pe_and h1 (tb := fun _ _ _ => False) ⟨fun _ _ _ _ _ _ z => z.elim⟩) fun σ H Q ⟨B, M, st, k⟩ => ⟨B, M, st, fun v H1 e1 r => by
      cases r
      refine ⟨false, rfl, ?_⟩
      refine iteF ?_
      exact k _ H1 e1 (.bl false)⟩
theorem e_or (h1 : XE X S g a (.bl b1)) (h2 : b1 = false → XE X S g (.BoolOp .Or (b :: es) pos) (.bl b2)) : XE X S g (.BoolOp .Or (a :: b :: es) pos) (.bl (b1 || b2)) := by
  cases b1 with
  | false => exact peI (pe_or h1 (h2 rfl)) fun σ H Q ⟨B, M, st, k⟩ => ⟨B, M, st, fun v H1 e1 r => by
      cases r
      refine ⟨false, rfl, ?_⟩
      refine iteF ?_
      exact ⟨B, M, st.mono e1, fun v2 H2 e2 r2 => k v2 H2 (e1.trans e2) r2⟩⟩
  | true => exact peI (pe_or h1 (tb := fun _ _ _ => False) ⟨fun _ _ _ _ _ _ z => z.elim⟩) fun σ H Q ⟨B, M, st, k⟩ => ⟨B, M, st, fun v H1 e1 r => by
      cases r
      refine ⟨true, rfl, ?_⟩
      refine iteT ?_
      exact k _ H1 e1 (.bl true)⟩
theorem e_not (h : XE X S g a (.bl bb)) : XE X S g (.UnaryOp .Not a pos) (.bl (!bb)) := peI (pe_not h) fun σ H Q ⟨B, M, st, k⟩ => ⟨B, M, st, fun v H1 e1 r => by
  cases r
  exact ⟨bb, rfl, k _ H1 e1 (.bl _)⟩⟩
theorem XE.is (h : XE X S g e d) {d' : D} (z : d = d') : XE X S g e d' := z ▸ h
theorem XT.is (h : XT X S g e bb) {b' : Bool} (z : bb = b') : XT X S g e b' := z ▸ h
end
end Fw

set_option Elab.async false
set_option linter.all false
set_option maxRecDepth 100000
set_option maxHeartbeats 4000000
namespace Fw
open PySem L2

/-! ### operations by data -/
section
variable {X : Cx} {W : Wd} {S : Sg} {k : Nat} {f : Value → Value → Sem Value} {r : R2} {i j : Int} {v : V} {d : D}
theorem Reps.one {H : Hp} {xs : List V} {a : D} (r : Reps S H xs [a]) : ∃ x, xs = [x] ∧ Rep S H x a := by
  cases r with
  | cons h t => cases t; exact ⟨_, rfl, h⟩
theorem Reps.two {H : Hp} {xs : List V} {a b : D} (r : Reps S H xs [a, b]) : ∃ x y, xs = [x, y] ∧ Rep S H x a ∧ Rep S H y b := by
  cases r with
  | cons h t => obtain ⟨y, rfl, q⟩ := t.one; exact ⟨_, y, rfl, h, q⟩
theorem binII (ho : OpR X f r) (h : ∀ (H : Hp) (Q : VK), Q v H → r (.int i) (.int j) H Q) (hv : ∀ H, Rep S H v d) : BinD X S f (.int i) (.int j) d := by
  intro pins s σ H x y u w Q I rx ry q
  obtain ⟨M, _, q, K⟩ := q
  obtain ⟨x', y', e, q1, q2⟩ := q.two
  cases e
  cases q1
  cases q2
  exact ho pins s σ H _ _ u w Q I rx ry (h H Q (K v H (Same.refl H) (hv _)))
theorem b_add : BinD X S (binaryOp .Add) (.int i) (.int j) (.int (i + j)) := binII op_add (fun H Q q => ⟨i, j, rfl, rfl, q⟩) fun H => .int _
theorem b_sub : BinD X S (binaryOp .Sub) (.int i) (.int j) (.int (i - j)) := binII op_sub (fun H Q q => ⟨i, j, rfl, rfl, q⟩) fun H => .int _
theorem b_mul (h : CMulW i j) : BinD X S (binaryOp .Mult) (.int i) (.int j) (.int (i * j)) := binII op_mulW (fun H Q q => ⟨i, j, rfl, rfl, h, q⟩) fun H => .int _
theorem b_fdiv (h : CDivW i j) : BinD X S (binaryOp .FloorDiv) (.int i) (.int j) (.int (i / j)) := binII op_fdivW (fun H Q q => ⟨i, j, rfl, rfl, h, q⟩) fun H => .int _
theorem b_mod (h : 0 < j) : BinD X S (binaryOp .Mod) (.int i) (.int j) (.int (i % j)) := binII op_mod (fun H Q q => ⟨i, j, rfl, rfl, h, q⟩) fun H => .int _
theorem b_modN (h : j ≠ 0) : BinD X S (binaryOp .Mod) (.int i) (.int j) (.int (i.fmod j)) := binII op_modN (fun H Q q => ⟨i, j, rfl, rfl, h, q⟩) fun H => .int _
theorem b_pow (h : CPow i j) : BinD X S (binaryOp .Pow) (.int i) (.int j) (.int (i ^ j.toNat)) := binII op_pow (fun H Q q => ⟨i, j, rfl, rfl, h, q⟩) fun H => .int _
theorem c_lt : BinD X S (compareOp .Lt) (.int i) (.int j) (.bl (decide (i < j))) := binII op_lt (fun H Q q => ⟨i, j, rfl, rfl, q⟩) fun H => .bl _
theorem c_le : BinD X S (compareOp .LtE) (.int i) (.int j) (.bl (decide (i ≤ j))) := binII op_le (fun H Q q => ⟨i, j, rfl, rfl, q⟩) fun H => .bl _
theorem c_gt : BinD X S (compareOp .Gt) (.int i) (.int j) (.bl (decide (j < i))) := binII op_gt (fun H Q q => ⟨i, j, rfl, rfl, q⟩) fun H => .bl _
theorem c_ge : BinD X S (compareOp .GtE) (.int i) (.int j) (.bl (decide (j ≤ i))) := binII op_ge (fun H Q q => ⟨i, j, rfl, rfl, q⟩) fun H => .bl _
theorem c_eq : BinD X S (compareOp .Eq) (.int i) (.int j) (.bl (decide (i = j))) := binII op_eq (fun H Q q => ⟨rfl, by
  have e : decide (V.int i = V.int j) = decide (i = j) := by
    rw [Bool.eq_iff_iff]
    simp
  rw [e]
  exact q⟩) fun H => .bl _
theorem c_ne : BinD X S (compareOp .NotEq) (.int i) (.int j) (.bl (!decide (i = j))) := binII op_ne (fun H Q q => ⟨rfl, by
  have e : decide (V.int i = V.int j) = decide (i = j) := by
    rw [Bool.eq_iff_iff]
    simp
  rw [e]
  exact q⟩) fun H => .bl _
/-- == of bools, of texts -/
theorem c_eqB {a b : Bool} : BinD X S (compareOp .Eq) (.bl a) (.bl b) (.bl (decide (a = b))) := by
  intro pins s σ H x y u w Q I rx ry ⟨M, _, q, K⟩
  obtain ⟨x', y', e, q1, q2⟩ := q.two
  cases e
  cases q1
  cases q2
  refine op_eq pins s σ H _ _ u w Q I rx ry ⟨rfl, ?_⟩
  have e : decide (V.bl a = V.bl b) = decide (a = b) := by
    rw [Bool.eq_iff_iff]
    simp
  rw [e]
  exact K _ H (Same.refl H) (.bl _)
theorem c_neB {a b : Bool} : BinD X S (compareOp .NotEq) (.bl a) (.bl b) (.bl (!decide (a = b))) := by
  intro pins s σ H x y u w Q I rx ry ⟨M, _, q, K⟩
  obtain ⟨x', y', e, q1, q2⟩ := q.two
  cases e
  cases q1
  cases q2
  refine op_ne pins s σ H _ _ u w Q I rx ry ⟨rfl, ?_⟩
  have e : decide (V.bl a = V.bl b) = decide (a = b) := by
    rw [Bool.eq_iff_iff]
    simp
  rw [e]
  exact K _ H (Same.refl H) (.bl _)
theorem c_eqS {a b : Str} : BinD X S (compareOp .Eq) (.str a) (.str b) (.bl (decide (a = b))) := by
  intro pins s σ H x y u w Q I rx ry ⟨M, _, q, K⟩
  obtain ⟨x', y', e, q1, q2⟩ := q.two
  cases e
  cases q1
  cases q2
  refine op_eq pins s σ H _ _ u w Q I rx ry ⟨rfl, ?_⟩
  have e : decide (V.str a = V.str b) = decide (a = b) := by
    rw [Bool.eq_iff_iff]
    simp
  rw [e]
  exact K _ H (Same.refl H) (.bl _)
theorem c_neS {a b : Str} : BinD X S (compareOp .NotEq) (.str a) (.str b) (.bl (!decide (a = b))) := by
  intro pins s σ H x y u w Q I rx ry ⟨M, _, q, K⟩
  obtain ⟨x', y', e, q1, q2⟩ := q.two
  cases e
  cases q1
  cases q2
  refine op_ne pins s σ H _ _ u w Q I rx ry ⟨rfl, ?_⟩
  have e : decide (V.str a = V.str b) = decide (a = b) := by
    rw [Bool.eq_iff_iff]
    simp
  rw [e]
  exact K _ H (Same.refl H) (.bl _)
/-- x is None -/
def isNonD : D → Bool
  | .non => true
  | _ => false
theorem isNon_of {H : Hp} {x : V} (r : Rep S H x d) : decide (x = .non) = isNonD d := by
  cases r <;> rfl
theorem c_isN : BinD X S (compareOp .Is) d .non (.bl (isNonD d)) := by
  intro pins s σ H x y u w Q I rx ry ⟨M, _, q, K⟩
  obtain ⟨x', y', e, q1, q2⟩ := q.two
  cases e
  cases q2
  refine op_isN pins s σ H _ _ u w Q I rx ry ⟨rfl, ?_⟩
  rw [isNon_of q1]
  exact K _ H (Same.refl H) (.bl _)
theorem c_isnotN : BinD X S (compareOp .IsNot) d .non (.bl (!isNonD d)) := by
  intro pins s σ H x y u w Q I rx ry ⟨M, _, q, K⟩
  obtain ⟨x', y', e, q1, q2⟩ := q.two
  cases e
  cases q2
  refine op_notN pins s σ H _ _ u w Q I rx ry ⟨rfl, ?_⟩
  rw [isNon_of q1]
  exact K _ H (Same.refl H) (.bl _)
/-- x is True, x is False -/
def isBlD (b : Bool) : D → Bool
  | .bl a => decide (a = b)
  | _ => false
theorem is_bool_gen {M : Model} {A : Around} {E : Value → Shared → Prop} {s : Shared} {Q : Value → Shared → Prop} {x : V} {v : Value} {b : Bool} (r : RelV x v) (h : Q (.bool (v == .bool b)) s) : wpAny M A (compareOp .Is v (.bool b)) Q E s := by
  cases x with
  | int i => obtain ⟨t, rfl⟩ := r; exact wpAny_pure h
  | str i => obtain ⟨t, rfl⟩ := r; exact wpAny_pure h
  | byt i => obtain ⟨t, rfl⟩ := r; exact wpAny_pure h
  | flt i => obtain ⟨t, rfl⟩ := r; exact wpAny_pure h
  | _ => cases r; exact wpAny_pure h
theorem isnot_bool_gen {M : Model} {A : Around} {E : Value → Shared → Prop} {s : Shared} {Q : Value → Shared → Prop} {x : V} {v : Value} {b : Bool} (r : RelV x v) (h : Q (.bool (!(v == .bool b))) s) : wpAny M A (compareOp .IsNot v (.bool b)) Q E s := by
  cases x with
  | int i => obtain ⟨t, rfl⟩ := r; exact wpAny_pure h
  | str i => obtain ⟨t, rfl⟩ := r; exact wpAny_pure h
  | byt i => obtain ⟨t, rfl⟩ := r; exact wpAny_pure h
  | flt i => obtain ⟨t, rfl⟩ := r; exact wpAny_pure h
  | _ => cases r; exact wpAny_pure h
theorem isBl_of {H : Hp} {x : V} {u : Value} {b : Bool} (r : Rep S H x d) (ru : RelV x u) : (u == .bool b) = isBlD b d := by
  cases r with
  | bl a =>
    cases ru
    show (Value.bool a == Value.bool b) = decide (a = b)
    rw [Bool.eq_iff_iff]
    simp
  | non => cases ru; rfl
  | int i => obtain ⟨t, rfl⟩ := ru; rfl
  | str i => obtain ⟨t, rfl⟩ := ru; rfl
  | tup => cases ru; rfl
  | lst => cases ru; rfl
  | pt => cases ru; rfl
  | obj => cases ru; rfl
theorem c_isB {b : Bool} : BinD X S (compareOp .Is) d (.bl b) (.bl (isBlD b d)) := by
  intro pins s σ H x y u w Q I rx ry ⟨M, _, q, K⟩
  obtain ⟨x', y', e, q1, q2⟩ := q.two
  cases e
  cases q2
  cases ry
  refine is_bool_gen rx ⟨.bl (isBlD b d), H, I, ?_, K _ H (Same.refl H) (.bl _)⟩
  show Value.bool _ = Value.bool _
  rw [isBl_of q1 rx]
theorem c_isnotB {b : Bool} : BinD X S (compareOp .IsNot) d (.bl b) (.bl (!isBlD b d)) := by
  intro pins s σ H x y u w Q I rx ry ⟨M, _, q, K⟩
  obtain ⟨x', y', e, q1, q2⟩ := q.two
  cases e
  cases q2
  cases ry
  refine isnot_bool_gen rx ⟨.bl (!isBlD b d), H, I, ?_, K _ H (Same.refl H) (.bl _)⟩
  show Value.bool _ = Value.bool _
  rw [isBl_of q1 rx]
theorem u_neg : UnD X S (unaryOp .USub) (.int i) (.int (-i)) := by
  intro pins s σ H x u Q I rx ⟨M, _, q, K⟩
  obtain ⟨x', e, q1⟩ := q.one
  cases e
  cases q1
  exact un_neg pins s σ H _ u Q I rx ⟨i, rfl, K _ H (Same.refl H) (.int _)⟩
theorem k_abs : CallD X S (.builtin "abs") [.int i] (.int (if i < 0 then -i else i)) := by
  intro pins s σ H xs us Q I r ⟨M, _, q, K⟩
  obtain ⟨x', e, q1⟩ := q.one
  cases e
  cases q1
  exact call_abs pins s σ H _ us Q I r ⟨i, rfl, K _ H (Same.refl H) (.int _)⟩
theorem k_int : CallD X S (.type "int") [.int i] (.int i) := by
  intro pins s σ H xs us Q I r ⟨M, _, q, K⟩
  obtain ⟨x', e, q1⟩ := q.one
  cases e
  cases q1
  exact call_int1 pins s σ H _ us Q I r (.inl ⟨i, rfl, K _ H (Same.refl H) (.int _)⟩)
theorem k_max2 (C : Cc X W S k) : CallD X S (.builtin "max") [.int i, .int j] (.int (if j > i then j else i)) := by
  intro pins s σ H xs us Q I r ⟨M, _, q, K⟩
  obtain ⟨x', y', e, q1, q2⟩ := q.two
  cases e
  cases q1
  cases q2
  exact call_max2 C.calm pins s σ H _ us Q I r ⟨i, j, rfl, K _ H (Same.refl H) (.int _)⟩
theorem k_min2 (C : Cc X W S k) : CallD X S (.builtin "min") [.int i, .int j] (.int (if j < i then j else i)) := by
  intro pins s σ H xs us Q I r ⟨M, _, q, K⟩
  obtain ⟨x', y', e, q1, q2⟩ := q.two
  cases e
  cases q1
  cases q2
  exact call_min2 C.calm pins s σ H _ us Q I r ⟨i, j, rfl, K _ H (Same.refl H) (.int _)⟩
theorem Kb.kk (C : Kb X W S) : X.K = S.K := (congrArg Wd.K C.wd).trans C.K
theorem hid_l {K : PySem.W.Frag} {M : List Addr} {H : Hp} {a : Addr} {xs : List V} (h : SqL K (hid M H) a xs) : SqL K H a xs := Evl.ex_l hid_le h
theorem hid_t {K : PySem.W.Frag} {M : List Addr} {H : Hp} {a : Addr} {xs : List V} (h : SqT K (hid M H) a xs) : SqT K H a xs := Evl.ex_t hid_le h
theorem k_lenL (C : Kb X W S) {ds : List D} : CallD X S (.builtin "len") [.lst ds] (.int (ds.length : Int)) := by
  intro pins s σ H xs us Q I r ⟨M, _, q, K⟩
  obtain ⟨x', e, q1⟩ := q.one
  cases e
  cases q1 with
  | lst hq rr =>
    refine call_len_seq pins s σ H _ us Q I r ⟨_, _, rfl, .inl (hid_l (by rw [C.kk]; exact hq)), ?_⟩
    rw [rr.length]
    exact K _ H (Same.refl H) (.int _)
theorem k_lenT (C : Kb X W S) {ds : List D} : CallD X S (.builtin "len") [.tup ds] (.int (ds.length : Int)) := by
  intro pins s σ H xs us Q I r ⟨M, _, q, K⟩
  obtain ⟨x', e, q1⟩ := q.one
  cases e
  cases q1 with
  | tup hq rr =>
    refine call_len_seq pins s σ H _ us Q I r ⟨_, _, rfl, .inr (hid_t (by rw [C.kk]; exact hq)), ?_⟩
    rw [rr.length]
    exact K _ H (Same.refl H) (.int _)
theorem k_lenS {z : Str} (hz : z.length ≤ sizeLine) : CallD X S (.builtin "len") [.str z] (.int (z.length : Int)) := by
  intro pins s σ H xs us Q I r ⟨M, _, q, K⟩
  obtain ⟨x', e, q1⟩ := q.one
  cases e
  cases q1
  exact call_len_str pins s σ H _ us Q I r ⟨z, rfl, hz, K _ H (Same.refl H) (.int _)⟩
theorem reps_at {H : Hp} {vs : List V} {ds : List D} (r : Reps S H vs ds) (h : atI ds i = some d) : ∃ v, atI vs i = some v ∧ Rep S H v d := by
  unfold atI at h ⊢
  rw [r.length]
  cases e : ixN ds.length i with
  | none => rw [e] at h; cases h
  | some n =>
    rw [e] at h
    obtain ⟨v, h1, h2⟩ := r.get (i := n) (d := d) h
    exact ⟨v, h1, h2⟩
theorem x_lst (C : Kb X W S) {ds : List D} (h : atI ds i = some d) : IxD X S (.lst ds) (.int i) d := by
  intro value slice pins s σ H x y u w Q I rx ry ⟨M, _, q, K⟩ hs
  obtain ⟨x', y', e, q1, q2⟩ := q.two
  cases e
  cases q2
  cases q1 with
  | lst hq rr =>
    obtain ⟨v, h1, h2⟩ := reps_at rr h
    exact ix_list value slice pins s σ H _ _ u w Q I rx ry ⟨_, _, i, v, rfl, rfl, hid_l (by rw [C.kk]; exact hq), h1, K v H (Same.refl H) h2⟩ hs
theorem x_tup (C : Kb X W S) {ds : List D} (h : atI ds i = some d) : IxD X S (.tup ds) (.int i) d := by
  intro value slice pins s σ H x y u w Q I rx ry ⟨M, _, q, K⟩ hs
  obtain ⟨x', y', e, q1, q2⟩ := q.two
  cases e
  cases q2
  cases q1 with
  | tup hq rr =>
    obtain ⟨v, h1, h2⟩ := reps_at rr h
    exact ix_tup value slice pins s σ H _ _ u w Q I rx ry ⟨_, _, i, v, rfl, rfl, hid_t (by rw [C.kk]; exact hq), h1, K v H (Same.refl H) h2⟩ hs
end

/-! ### defs -/
inductive Out where
  | ok (d : D) | err (c : Nat) (fs : List (Str × D)) | new (d : D)
def OutK (S : Sg) (H : Hp) (M : List Addr) (Q : VK) (E : XK) : Out → Prop
  | .ok d => ∀ v H', Same H H' → Rep S (hid M H') v d → Q v H'
  | .err c fs => ∀ dx ws H', Same H H' → Xd S H H' M fs dx ws → E (.ref (S.cX c)) (dOf fs dx) H'
  | .new d => ∀ p H', H p = none → Same H H' → NewAt S M H' p d → Q (.ref p) H'
/-- the promise of a def by what it does to data -/
def spOf (S : Sg) (n : Nat) (R : List D → Out → Prop) : Sp := fun vs H Q E => vs.length = n ∧ ∃ M ds o, (∀ a ∈ M, H a ≠ none) ∧ Reps S (hid M H) vs ds ∧ R ds o ∧ OutK S H M Q E o

theorem passN {X : Cx} : Passes (L2N.CX X.prog X.w) X E0 := fun pins σ H s e s' I h => by
  obtain ⟨_, _, _, _, _, _, _, _, _, _, _, _, z⟩ := h
  exact z.elim
/-- the def x, called with n arguments (dd: what fills up), at level k -/
structure Fn (W : Wd) (S : Sg) (k : Nat) (x : Str) (n : Nat) (dd : List D) (R : List D → Out → Prop) : Prop where
  ex : ∃ f fd ps, FnOk W.P W.w W.K W.mg W.base (L2N.CX W.P W.w) k f fd ps (spOf S ps.length R) ∧ W.mg x = some (.ref f) ∧ PySem.W.keepIn W.K (.ref f) = true ∧ ps.length = n + dd.length ∧
    ∃ dvs us, Binds W.K fd ps us ∧ Vals dvs us ∧ ∀ H, Reps S H dvs dd

section
variable {X : Cx} {W : Wd} {S : Sg} {k j : Nat} {g g' : En} {e : Expr} {es : List Expr} {ds dd : List D} {d : D} {x : Str} {n : Nat} {R : List D → Out → Prop} {pos p : Pos}
theorem sp_use {dvs : List V} {B : Bs} {M : List Addr} {t : L2.St} {H : Hp} {Q : VK} {E : XK} (hd : ∀ H, Reps S H dvs dd) (hn : ds.length + dd.length = n) (hR : R (ds ++ dd) (.ok d)) (st : Stt S B M g t H)
    {vs : List V} (r : Reps S (hid M H) vs ds) (k : ∀ v H', Same H H' → Rep S (hid M H') v d → Q v H') : spOf S n R (vs ++ dvs) H Q E :=
  ⟨by rw [List.length_append, r.length, (hd H).length]; exact hn, M, _, _, st.trk, r.append (hd _), hR, k⟩
theorem e_call (C : Cc X W S k) (F : Fn W S j x n dd R) (G : Ng X x) (ha : XA X S g (e :: es) ds) (hR : R (ds ++ dd) (.ok d)) (hn : ds.length = n := by rfl) (hj : j ≤ k := by decide)
    (he : starEach (e :: es) X.env = (false, eval e X.env) :: starEach es X.env := by rfl) (hpl : (backTo pos (starEach es X.env)).any (·.1) = false := by rfl) : XE X S g (.Call (.Name x p) (e :: es) [] pos) d := by
  obtain ⟨f, fd, ps, F, hm, hk, hl, dvs, us, hb, hv, hd⟩ := F.ex
  obtain ⟨⟨w1, w2, c3, c4⟩, c1, c2⟩ := C
  subst w1
  refine peI (pe_call (E := E0) F (c2.mono hj) G.gl hm hk hb hv passN ha G.dbg he hpl) ?_
  intro σ H Q ⟨B, M, st, kk⟩
  exact ⟨B, M, st, fun vs H1 e1 r => sp_use hd (by rw [hl, hn]) hR (st.mono e1) r fun v H2 e2 r2 => kk v H2 (e1.trans e2) r2⟩
end
end Fw

set_option Elab.async false
set_option linter.all false
set_option maxRecDepth 100000
set_option maxHeartbeats 4000000
namespace Fw
open PySem L2

section
variable {X : Cx} {W : Wd} {S : Sg} {U : WX} {k : Nat} {g g' : En} {P : Po} {e c : Expr} {st : Stmt} {rest body orelse : List Stmt} {d : D} {ds : List D} {x : Str} {i : Nat} {pos p : Pos} {b : Bool}

/-! ### statements -/
theorem s_nil (h : P.nx g) : XB X S U g [] P := psbI pss_nil fun E σ H ⟨B, M, st, c, _⟩ => c.nx _ _ _ _ h st
theorem s_cons (h : XS X S U g st { P with nx := fun g' => XB X S U g' rest P }) : XB X S U g (st :: rest) P := by
  have h2 : PSs X rest (fun E t H => ∃ g', XB X S U g' rest P ∧ ∃ B M, Stt S B M g' t H ∧ Ct S B U P E ∧ Cx' S B U P) := ⟨fun pins s σ H E I ⟨g', hx, w⟩ => hx.run pins s σ H E I w⟩
  refine psbI (pss_cons h h2) fun E σ H ⟨B, M, st, c, x⟩ => ?_
  exact ⟨B, M, st, ⟨fun g' M' t' H' hx st' => ⟨g', hx, B, M', st', c, x⟩, c.rt, c.bk, c.ct, c.rn⟩, x⟩
/-- with a word between the statement and the rest -/
theorem s_mid (Mid : En → Prop) (h : XS X S U g st { P with nx := Mid }) (h2 : ∀ g', Mid g' → XB X S U g' rest P) : XB X S U g (st :: rest) P := by
  refine s_cons (psI h fun E σ H ⟨B, M, st, c, x⟩ => ⟨B, M, st, ⟨fun g' M' t' H' hx st' => c.nx g' M' t' H' (h2 g' hx) st', c.rt, c.bk, c.ct, c.rn⟩, x⟩)
theorem s_imp {P' : Po} (h : XS X S U g st P') (hn : ∀ g, P'.nx g → P.nx g) (hr : ∀ d, P'.rt d → P.rt d) (hb : ∀ g, P'.bk g → P.bk g) (hc : ∀ g, P'.ct g → P.ct g) (hx : ∀ c fs g, P'.ex c fs g → P.ex c fs g) (hrn : ∀ d, P'.rn d → P.rn d := by exact fun _ h => h) : XS X S U g st P :=
  psI h fun E σ H ⟨B, M, st, c, x⟩ => ⟨B, M, st, ⟨fun g' M' t' H' z st' => c.nx g' M' t' H' (hn _ z) st', fun v H d z => c.rt v H d (hr _ z), fun g' M' t' H' z => c.bk g' M' t' H' (hb _ z), fun g' M' t' H' z => c.ct g' M' t' H' (hc _ z), fun p H d z => c.rn p H d (hrn _ z)⟩,
    fun c' fs dx ws g M t H z => x c' fs dx ws g M t H (hx _ _ _ z)⟩
theorem s_asg (C : Kb X W S) (N : Nl X i x) (he : XE X S g e d) (h : P.nx (g.set i (.v d))) (hs : swapsWith e (some (.Name x p)) pos.line X.env = pure false := by rfl) : XS X S U g (.Assign [.Name x p] e pos) P :=
  psI (ps_set C.nd N.n N.loc he hs N.fn) fun E σ H ⟨B, M, st, c, _⟩ => ⟨B, M, st, fun v H1 e1 r => c.nx _ M _ H1 h ((st.mono e1).set i r)⟩
theorem s_asgN (C : Kb X W S) (N : Nl X i x) (he : XN X S g e ds) (h : P.nx (g.set i (.own ds))) (hs : swapsWith e (some (.Name x p)) pos.line X.env = pure false := by rfl) : XS X S U g (.Assign [.Name x p] e pos) P :=
  psI (ps_set C.nd N.n N.loc he hs N.fn) fun E σ H ⟨B, M, st, c, _⟩ => ⟨B, M, st, fun q vs H1 hp e1 hl r => c.nx _ _ _ H1 h (st.setOwn i hp e1 hl r)⟩
/-- target = e -/
theorem s_asgT {tg : Expr} (he : XE X S g e d) (ht : XG X S g tg d g') (h : P.nx g') (hs : swapsWithSole [tg] e pos.line X.env = pure false := by rfl) (hw : swappedStores [tg] e X.env = pure none := by rfl)
    (h1 : (assignEach [tg] X.env).map (·.2) = [assign tg X.env] := by rfl) : XS X S U g (.Assign [tg] e pos) P :=
  psI (ps_asg he ht hs hw h1) fun E σ H ⟨B, M, st, c, _⟩ => ⟨B, M, st, fun v H1 e1 r => ⟨B, M, st.mono e1, r, fun t' st' => c.nx _ _ _ _ h st'⟩⟩
theorem s_ret (he : XE X S g e d) (h : P.rt d) : XS X S U g (.Return (some e) pos) P :=
  psI (ps_ret he) fun E σ H ⟨B, M, st, c, _⟩ => ⟨B, M, st, fun v H1 e1 r => c.rt v H1 d h (st.same.trans e1) (r.mono (st.mono e1).out)⟩
theorem s_retN (h : P.rt .non) : XS X S U g (.Return none pos) P :=
  psI ps_retN fun E σ H ⟨B, M, st, c, _⟩ => c.rt _ H _ h st.same .non
theorem s_expr (he : XE X S g e d) (h : P.nx g) (hs : swapsWith e none pos.line X.env = pure false := by rfl) : XS X S U g (.Expr e pos) P :=
  psI (ps_expr he hs) fun E σ H ⟨B, M, st, c, _⟩ => ⟨B, M, st, fun v H1 e1 r => c.nx _ M _ H1 h (st.mono e1)⟩
theorem s_pass (h : P.nx g) : XS X S U g (.Pass pos) P := psI ps_pass fun E σ H ⟨B, M, st, c, _⟩ => c.nx _ _ _ _ h st
theorem s_break (h : P.bk g) : XS X S U g (.Break pos) P := psI ps_break fun E σ H ⟨B, M, st, c, _⟩ => c.bk _ _ _ _ h st
theorem s_cont (h : P.ct g) : XS X S U g (.Continue pos) P := psI ps_continue fun E σ H ⟨B, M, st, c, _⟩ => c.ct _ _ _ _ h st
theorem s_if (hc : XT X S g c b) (h1 : b = true → XB X S U g body P) (h2 : b = false → XB X S U g orelse P) : XS X S U g (.If c body orelse pos) P := by
  cases b with
  | true => exact psI (ps_if hc (h1 rfl) (pss_never (sts := orelse))) fun E σ H ⟨B, M, st, c, x⟩ => ⟨B, M, st, fun H1 e1 => by refine iteT ?_; exact ⟨B, M, st.mono e1, c, x⟩⟩
  | false => exact psI (ps_if hc (pss_never (sts := body)) (h2 rfl)) fun E σ H ⟨B, M, st, c, x⟩ => ⟨B, M, st, fun H1 e1 => by refine iteF ?_; exact ⟨B, M, st.mono e1, c, x⟩⟩
theorem b_freeze {sts : List Stmt} (i : Nat) (hi : g[i]? = some (.own ds)) (h : XB X S U (g.set i (.v (.lst ds))) sts P) : XB X S U g sts P :=
  psbI h fun E σ H ⟨B, M, st, c, x⟩ => let ⟨M', st'⟩ := st.freeze hi; ⟨B, M', st', c, x⟩
theorem s_retOwn (N : Nm X i x) (hi : g[i]? = some (.own ds)) (h : P.rt (.lst ds)) {pos' : Pos} : XS X S U g (.Return (some (.Name x pos)) pos') P :=
  psI (ps_ret (pe_var N.n N.vis N.dbg N.cdt)) fun E σ H ⟨B, M, st, c, x⟩ => by
    obtain ⟨l, vs, ht, hm, h0, hl, r⟩ := st.own hi
    exact ⟨.ref l, ht, c.rt _ H _ h st.same (.lst (SqL.of (hid_of h0 hl)) (r.mono st.out))⟩

/-! ### targets -/
theorem g_name (C : Kb X W S) (N : Nl X i x) : XG X S g (.Name x pos) d (g.set i (.v d)) :=
  pgI (pg_name C.nd N.n N.loc N.fn) fun v σ H Q ⟨B, M, st, r, kk⟩ => kk _ (st.set i r)
theorem gs_nil : XGs X S g [] [] g := pgsI pgs_nil fun vs σ H Q ⟨B, M, st, r, kk⟩ => by
  cases r
  exact ⟨rfl, kk _ st⟩
theorem gs_cons {es : List Expr} {g2 : En} (h : XG X S g e d g') (t : XGs X S g' es ds g2) (hs : (assignEach (e :: es) X.env).map (·.2) = assign e X.env :: (assignEach es X.env).map (·.2) := by rfl) : XGs X S g (e :: es) (d :: ds) g2 :=
  pgsI (pgs_cons h t hs) fun vs σ H Q ⟨B, M, st, r, kk⟩ => by
    cases r with
    | cons r rr => exact ⟨_, _, rfl, B, M, st, r, fun t' st' => ⟨B, M, st', rr, fun t2 st2 => kk t2 st2⟩⟩
theorem g_tup {es : List Expr} {z : Nat} (C : Cc X W S k) (h : XGs X S g es ds g') (hn : (assignEach es X.env).length = ds.length := by rfl) (hst : (assignEach es X.env).findIdx? (·.1) = none := by rfl) : XG X S g (.Tuple es z pos) (.tup ds) g' :=
  pgI (pg_tup C.calm h hn hst) fun v σ H Q ⟨B, M, st, r, kk⟩ => by
    cases r with
    | tup hq rr => exact ⟨_, _, rfl, hid_t (by rw [C.kk]; exact hq), rr.length, B, M, st, rr, kk⟩

/-! ### while -/
theorem s_while (C : Kb X W S) (I : Nat → En → Prop) (m : Nat) (h0 : I m g)
    (hs : ∀ m g', I m g' → ∃ b, XT X S g' c b ∧ (b = true → XB X S U g' body { P with nx := fun g2 => ∃ m', m' < m ∧ I m' g2, ct := fun g2 => ∃ m', m' < m ∧ I m' g2, bk := P.nx }) ∧ (b = false → P.nx g')) : XS X S U g (.While c body [] pos) P := by
  have hc : PT X c (fun t H Q => ∃ g' b B M, XT X S g' c b ∧ Stt S B M g' t H ∧ ∀ H', Same H H' → Q b H') := ⟨fun pins s σ H Q I ⟨g', b, B, M, hx, st, kk⟩ => hx.run pins s σ H Q I ⟨B, M, st, kk⟩⟩
  have hb : PSs X body (fun E t H => ∃ g' P', XB X S U g' body P' ∧ ∃ B M, Stt S B M g' t H ∧ Ct S B U P' E ∧ Cx' S B U P') := ⟨fun pins s σ H E I ⟨g', P', hx, w⟩ => hx.run pins s σ H E I w⟩
  refine psI (ps_while C.own hc hb) fun E σ H ⟨B, M, st, c, x⟩ => ?_
  refine ⟨fun m t H => ∃ g' M, I m g' ∧ Stt S B M g' t H, ⟨m, g, M, h0, st⟩, ?_⟩
  rintro m t H ⟨g', M, hI, st⟩
  obtain ⟨b, hx, h1, h2⟩ := hs m g' hI
  refine ⟨g', b, B, M, hx, st, fun H1 e1 => ?_⟩
  cases b with
  | true =>
    refine iteT ⟨fun t2 H2 => ∃ m' g2 M2, m' < m ∧ I m' g2 ∧ Stt S B M2 g2 t2 H2, fun t2 H2 ⟨m', g2, M2, a1, a2, a3⟩ => ⟨m', a1, g2, M2, a2, a3⟩, g', _, h1 rfl, B, M, st.mono e1, ⟨?_, c.rt, c.nx, ?_, c.rn⟩, x⟩
    · rintro g2 M2 t2 H2 ⟨m', a1, a2⟩ st2
      exact ⟨m', g2, M2, a1, a2, st2⟩
    · rintro g2 M2 t2 H2 ⟨m', a1, a2⟩ st2
      exact ⟨m', g2, M2, a1, a2, st2⟩
  | false => exact iteF (c.nx _ _ _ _ (h2 rfl) (st.mono e1))
end

/-! ### walks -/
structure Walks (S : Sg) (J : It) (Gh : Hp → Prop) (n : Nat) (it : Nat → D) : Prop where
  mono : ∀ H H', Same H H' → Gh H → Gh H'
  go : ∀ M i H, Gh (hid M H) → i < n → J.go i H
  stop : ∀ M i H, Gh (hid M H) → n ≤ i → J.stop i H
  yld : ∀ M i H x H', (∀ a ∈ M, H a ≠ none) → Gh (hid M H) → i < n → J.yld i H x H' → Same H H' ∧ Rep S (hid M H') x (it i)
/-- iter, walked with the target tg, gives n items -/
def XI (X : Cx) (S : Sg) (g : En) (tg iter : Expr) (n : Nat) (it : Nat → D) : Prop := PI X tg iter fun t H R => ∃ B M, Stt S B M g t H ∧ ∀ J Gh H', Same H H' → Walks S J Gh n it → Gh (hid M H') → R J H'
theorem piI {X : Cx} {tg e : Expr} {w w' : TI} (h : PI X tg e w) (k : ∀ σ H R, w' σ H R → w σ H R) : PI X tg e w' := ⟨fun pins s σ H R I q => h.run pins s σ H R I (k _ _ _ q)⟩

section
variable {X : Cx} {W : Wd} {S : Sg} {U : WX} {k : Nat} {g g' : En} {P : Po} {e c tg iter : Expr} {es : List Expr} {st : Stmt} {rest body : List Stmt} {d : D} {ds : List D} {x : Str} {i n : Nat} {pos p : Pos} {b : Bool} {it : Nat → D}
def itOf (ds : List D) (i : Nat) : D := ds.getD i .non
theorem itOf_get {ds : List D} {i : Nat} (h : i < ds.length) : ds[i]? = some (itOf ds i) := by
  unfold itOf
  rw [List.getD_eq_getElem?_getD, List.getElem?_eq_getElem h]
  rfl
theorem walks_list {a : Addr} {vs : List V} : Walks S (Itl S.K a) (fun H => SqL S.K H a vs ∧ Reps S H vs ds) ds.length (itOf ds) where
  mono := fun H H' e ⟨h1, h2⟩ => ⟨Evl.ex_l e h1, h2.mono e⟩
  go := fun M i H ⟨h1, h2⟩ hi => by
    have hv : i < vs.length := by rw [h2.length]; exact hi
    exact ⟨vs, vs[i], hid_l h1, List.getElem?_eq_getElem hv⟩
  stop := fun M i H ⟨h1, h2⟩ hi => ⟨vs, hid_l h1, by rw [h2.length]; exact hi⟩
  yld := fun M i H x H' _ ⟨h1, h2⟩ hi ⟨e, y⟩ => by
    subst e
    have hx := y vs (hid_l h1)
    obtain ⟨v, hv, r⟩ := h2.get (itOf_get hi)
    rw [hx] at hv
    cases hv
    exact ⟨Same.refl _, r⟩
theorem walks_tup {a : Addr} {vs : List V} : Walks S (Itt S.K a) (fun H => SqT S.K H a vs ∧ Reps S H vs ds) ds.length (itOf ds) where
  mono := fun H H' e ⟨h1, h2⟩ => ⟨Evl.ex_t e h1, h2.mono e⟩
  go := fun M i H ⟨h1, h2⟩ hi => by
    have hv : i < vs.length := by rw [h2.length]; exact hi
    exact ⟨vs, vs[i], hid_t h1, List.getElem?_eq_getElem hv⟩
  stop := fun M i H ⟨h1, h2⟩ hi => ⟨vs, hid_t h1, by rw [h2.length]; exact hi⟩
  yld := fun M i H x H' _ ⟨h1, h2⟩ hi ⟨e, y⟩ => by
    subst e
    have hx := y vs (hid_t h1)
    obtain ⟨v, hv, r⟩ := h2.get (itOf_get hi)
    rw [hx] at hv
    cases hv
    exact ⟨Same.refl _, r⟩
theorem walks_rng {lo : Int} {n : Nat} : Walks S (Itr lo n) (fun _ => True) n (fun i => .int (lo + i)) where
  mono := fun _ _ _ _ => trivial
  go := fun _ i _ _ hi => hi
  stop := fun _ i _ _ hi => hi
  yld := fun M i H x H' _ _ hi ⟨e, y⟩ => by
    subst e
    subst y
    exact ⟨Same.refl _, .int _⟩
theorem walks_enum {a : Addr} {vs : List V} : Walks S (Ite S.K a) (fun H => SqL S.K H a vs ∧ Reps S H vs ds) ds.length (fun i => .tup [.int i, itOf ds i]) where
  mono := fun H H' e ⟨h1, h2⟩ => ⟨Evl.ex_l e h1, h2.mono e⟩
  go := fun M i H ⟨h1, h2⟩ hi => by
    have hv : i < vs.length := by rw [h2.length]; exact hi
    exact ⟨vs, vs[i], hid_l h1, List.getElem?_eq_getElem hv⟩
  stop := fun M i H ⟨h1, h2⟩ hi => ⟨vs, hid_l h1, by rw [h2.length]; exact hi⟩
  yld := fun M i H x H' tr ⟨h1, h2⟩ hi ⟨T, y, e1, e2, e3, e4⟩ => by
    subst e1
    subst e3
    obtain ⟨v, hv, r⟩ := h2.get (itOf_get hi)
    rw [e4 vs (hid_l h1)] at hv
    cases hv
    have nT : T ∉ M := fun z => tr T z e2
    exact ⟨same_upd e2, .tup (SqT.of (hid_of nT upd_same)) (.cons (.int _) (.cons (r.mono (hid_same (same_upd e2))) .nil))⟩
theorem i_list (C : Kb X W S) (h : XE X S g iter (.lst ds)) : XI X S g tg iter ds.length (itOf ds) :=
  piI (pi_list h) fun σ H R ⟨B, M, st, kk⟩ => ⟨B, M, st, fun v H1 e1 r => by
    cases r with
    | lst hq rr =>
      have hq' := hq
      rw [← C.kk] at hq'
      refine ⟨_, rfl, ⟨_, hid_l hq'⟩, ?_⟩
      rw [C.kk]
      exact kk _ _ H1 e1 walks_list ⟨hq, rr⟩⟩
theorem i_tup (C : Kb X W S) (h : XE X S g iter (.tup ds)) : XI X S g tg iter ds.length (itOf ds) :=
  piI (pi_tup h) fun σ H R ⟨B, M, st, kk⟩ => ⟨B, M, st, fun v H1 e1 r => by
    cases r with
    | tup hq rr =>
      have hq' := hq
      rw [← C.kk] at hq'
      refine ⟨_, rfl, ⟨_, hid_t hq'⟩, ?_⟩
      rw [C.kk]
      exact kk _ _ H1 e1 walks_tup ⟨hq, rr⟩⟩
theorem i_range1 {j : Int} (G : Ng X "range") (hm : X.mg "range" = none) (ha : XA X S g [e] [.int j]) (h : -(2 ^ 62) ≤ j ∧ j < 2 ^ 62) (hs : starEach [e] X.env = [(false, eval e X.env)] := by rfl) : XI X S g tg (.Call (.Name "range" p) [e] [] pos) j.toNat (fun i => .int (0 + i)) :=
  piI (pi_range1 G.gl hm ha (hs := hs)) fun σ H R ⟨B, M, st, kk⟩ => ⟨B, M, st, fun vs H1 e1 r => by
    obtain ⟨x, e, q⟩ := r.one
    cases e
    cases q
    exact ⟨j, rfl, h.1, h.2, kk _ _ H1 e1 walks_rng trivial⟩⟩
theorem i_range2 {i j : Int} {e2 : Expr} (G : Ng X "range") (hm : X.mg "range" = none) (ha : XA X S g [e, e2] [.int i, .int j]) (h : -(2 ^ 62) ≤ i ∧ i < 2 ^ 62 ∧ -(2 ^ 62) ≤ j ∧ j < 2 ^ 62) (hs : starEach [e, e2] X.env = [(false, eval e X.env), (false, eval e2 X.env)] := by rfl) (hs2 : starEach [e2] X.env = [(false, eval e2 X.env)] := by rfl) :
    XI X S g tg (.Call (.Name "range" p) [e, e2] [] pos) (j - i).toNat (fun n => .int (i + n)) :=
  piI (pi_range2 G.gl hm ha (hs := hs) (hs2 := hs2)) fun σ H R ⟨B, M, st, kk⟩ => ⟨B, M, st, fun vs H1 e1 r => by
    obtain ⟨x, y, e, q1, q2⟩ := r.two
    cases e
    cases q1
    cases q2
    exact ⟨i, j, rfl, h, kk _ _ H1 e1 walks_rng trivial⟩⟩
theorem i_enum {elts : List Expr} {z : Nat} {tpos : Pos} (C : Kb X W S) (G : Ng X "enumerate") (hm : X.mg "enumerate" = none) (ha : XA X S g [e] [.lst ds]) (hs : starEach [e] X.env = [(false, eval e X.env)] := by rfl) :
    XI X S g (.Tuple elts z tpos) (.Call (.Name "enumerate" p) [e] [] pos) ds.length (fun i => .tup [.int i, itOf ds i]) :=
  piI (pi_enum G.gl hm ha hs) fun σ H R ⟨B, M, st, kk⟩ => ⟨B, M, st, fun vs H1 e1 r => by
    obtain ⟨x, e, q⟩ := r.one
    cases e
    cases q with
    | lst hq rr =>
      have hq' := hq
      rw [← C.kk] at hq'
      refine ⟨_, _, rfl, hid_l hq', ?_⟩
      rw [C.kk]
      exact kk _ _ H1 e1 walks_enum ⟨hq, rr⟩⟩

/-- what is kept besides the slots grows -/
def Bs.more (B : Bs) (Gh : Hp → Prop) (m : ∀ H H', Same H H' → Gh H → Gh H') : Bs := ⟨B.H0, B.M0, fun H => B.G H ∧ Gh H, fun H H' e ⟨h1, h2⟩ => ⟨B.gm H H' e h1, m H H' e h2⟩⟩
theorem Stt.more {B : Bs} {M : List Addr} {t : L2.St} {H : Hp} {Gh : Hp → Prop} (m : ∀ H H', Same H H' → Gh H → Gh H') (h : Stt S B M g t H) (q : Gh (hid M H)) : Stt S (B.more Gh m) M g t H := ⟨h.same, h.sub, h.new, h.trk, h.sl, ⟨h.gh, q⟩, h.apart⟩
theorem Stt.less {B : Bs} {M : List Addr} {t : L2.St} {H : Hp} {Gh : Hp → Prop} {m : ∀ H H', Same H H' → Gh H → Gh H'} (h : Stt S (B.more Gh m) M g t H) : Stt S B M g t H := ⟨h.same, h.sub, h.new, h.trk, h.sl, h.gh.1, h.apart⟩
theorem Ct.more {B : Bs} {E : Ends} {Gh : Hp → Prop} {m : ∀ H H', Same H H' → Gh H → Gh H'} (c : Ct S B U P E) : Ct S (B.more Gh m) U P E :=
  ⟨fun g M t H z st => c.nx g M t H z st.less, c.rt, fun g M t H z st => c.bk g M t H z st.less, fun g M t H z st => c.ct g M t H z st.less, c.rn⟩

/-- for: I by the turn -/
theorem s_for (C : Cc X W S k) (hi : XI X S g tg iter n it) (I : Nat → En → Prop) (h0 : I 0 g)
    (hs : ∀ i g1, i < n → I i g1 → ∃ g2, XG X S g1 tg (it i) g2 ∧ XB X S U g2 body { P with nx := I (i + 1), ct := I (i + 1), bk := P.nx }) (hd : ∀ g1, I n g1 → P.nx g1)
    (hf : ∀ x, foldedSetIterable iter X.env x = pure x := by intro _; rfl) : XS X S U g (.For tg iter body [] pos) P := by
  have hg : PG X tg (fun v t H Q => ∃ g1 d g2, XG X S g1 tg d g2 ∧ ∃ B M, Stt S B M g1 t H ∧ Rep S (hid M H) v d ∧ ∀ t', Stt S B M g2 t' H → Q t' H) := ⟨fun pins s σ H v u Q I r ⟨g1, d, g2, hx, w⟩ => hx.run pins s σ H v u Q I r w⟩
  have hb : PSs X body (fun E t H => ∃ g' P', XB X S U g' body P' ∧ ∃ B M, Stt S B M g' t H ∧ Ct S B U P' E ∧ Cx' S B U P') := ⟨fun pins s σ H E I ⟨g', P', hx, w⟩ => hx.run pins s σ H E I w⟩
  refine psI (ps_for C.own C.calm hi hg hb hf) fun E σ H ⟨B, M, st, c, x⟩ => ⟨B, M, st, fun J Gh H' e1 wk hG => ?_⟩
  refine ⟨fun i m t H => m = n - i ∧ i ≤ n ∧ ∃ g1 M1, I i g1 ∧ Stt S (B.more Gh wk.mono) M1 g1 t H, ⟨n, by simp, Nat.zero_le _, g, M, h0, (st.mono e1).more wk.mono hG⟩, ?_⟩
  rintro i m t H1 ⟨rfl, hin, g1, M1, hI, st1⟩
  by_cases hlt : i < n
  · refine .inr ⟨wk.go M1 i H1 st1.gh.2 hlt, fun t2 H2 => ∃ g2 M2, I (i + 1) g2 ∧ Stt S (B.more Gh wk.mono) M2 g2 t2 H2, fun t2 H2 w => ⟨n - (i + 1), by omega, rfl, hlt, w⟩, fun y H2 hy => ?_⟩
    obtain ⟨e2, r⟩ := wk.yld M1 i H1 y H2 st1.trk st1.gh.2 hlt hy
    obtain ⟨g2, hx, hB⟩ := hs i g1 hlt hI
    refine ⟨g1, _, g2, hx, _, M1, st1.mono e2, r, fun t' st' => ⟨g2, _, hB, _, M1, st', ⟨fun g3 M3 t3 H3 z q => ⟨g3, M3, z, q⟩, c.rt, fun g3 M3 t3 H3 z q => c.nx _ _ _ _ z q.less, fun g3 M3 t3 H3 z q => ⟨g3, M3, z, q⟩, c.rn⟩, fun c' fs dx ws g3 M3 t3 H3 z q => x c' fs dx ws g3 M3 t3 H3 z q.less⟩⟩
  · have e : i = n := by omega
    subst e
    exact .inl ⟨wk.stop M1 i H1 st1.gh.2 (Nat.le_refl _), c.nx _ _ _ _ (hd g1 hI) st1.less⟩
end

/-! ### one's own lists -/
section
variable {X : Cx} {W : Wd} {S : Sg} {U : WX} {k : Nat} {g : En} {P : Po} {e : Expr} {d : D} {ds : List D} {x : Str} {i n : Nat} {j : Int} {pos p apos cpos : Pos}
theorem s_app (C : Kb X W S) (N : Nm X i x) (hi : g[i]? = some (.own ds)) (he : XE X S g e d) (hz : ds.length < 100000) (h : P.nx (g.set i (.own (ds ++ [d]))))
    (hline : (apos.endLine == cpos.line) = true := by rfl) (hs1 : starEach [e] X.env = (false, eval e X.env) :: starEach [] X.env := by rfl)
    (hs : swapsWith (.Call (.Attribute (.Name x p) "append" apos) [e] [] cpos) none pos.line X.env = pure false := by rfl) : XS X S U g (.Expr (.Call (.Attribute (.Name x p) "append" apos) [e] [] cpos) pos) P := by
  have ha : XA X S g [e] [d] := a_cons he a_nil hs1
  have hfew : ((backTo cpos (starEach [e] X.env)).all (fun x => !x.1) && (backToKw cpos (keywordEach [] X.env)).all (fun x => x.1.isSome) && decide ([e].length + ([] : List Keyword).length + (if ([] : List Keyword).isEmpty then 0 else 1) < 30)) = true := by
    rw [hs1]
    rfl
  refine psI (ps_expr (pe_bm PySem.F.plainAttrs_list PySem.F.slot_list_append PySem.F.type_list_append mt_append (pe_var N.n N.vis N.dbg N.cdt) ha rfl hfew hline hs1 rfl) hs) fun E σ H ⟨B, M, st, c, _⟩ => ?_
  obtain ⟨l, vs, ht, hm, h0, hl, r⟩ := st.own hi
  refine ⟨.ref l, ht, .inl ⟨rfl, vs, SqL.of hl⟩, B, M, st, fun ws H1 e1 rw => ?_⟩
  obtain ⟨y, e2, ry⟩ := rw.one
  subst e2
  refine ⟨l, vs, y, rfl, rfl, e1 _ _ hl, by rw [r.length]; exact Evl.sz_lt hz, c.nx _ _ _ _ h ((st.mono e1).upOwn hi ht hm h0 (e1 _ _ hl) ((r.mono (hid_same e1)).append (.cons ry .nil)))⟩
theorem e_lenOwn (C : Kb X W S) (N : Nm X i x) (hi : g[i]? = some (.own ds)) (G : Ng X "len") (hm : X.mg "len" = none) : XE X S g (.Call (.Name "len" p) [.Name x apos] [] pos) (.int (ds.length : Int)) :=
  peI (pe_callB call_len_seq G.gl hm PySem.boot_len (pa_cons (pe_var N.n N.vis N.dbg N.cdt) pa_nil)) fun σ H Q ⟨B, M, st, kk⟩ => by
    obtain ⟨l, vs, ht, hm, h0, hl, r⟩ := st.own hi
    refine ⟨.ref l, ht, l, vs, rfl, .inl (SqL.of hl), ?_⟩
    rw [r.length]
    exact kk _ H (Same.refl H) (.int _)
theorem e_ixOwn (C : Kb X W S) (N : Nm X i x) (hi : g[i]? = some (.own ds)) (he : XE X S g e (.int j)) (h : atI ds j = some d) (hs : PlainIx e := by exact fun _ _ => rfl) : XE X S g (.Subscript (.Name x p) e pos) d :=
  peI (pe_ix ix_list (pe_var N.n N.vis N.dbg N.cdt) he hs) fun σ H Q ⟨B, M, st, kk⟩ => by
    obtain ⟨l, vs, ht, hm, h0, hl, r⟩ := st.own hi
    refine ⟨.ref l, ht, B, M, st, fun v H1 e1 rv => ?_⟩
    cases rv
    obtain ⟨u, hu, ru⟩ := reps_at r h
    exact ⟨l, vs, j, u, rfl, rfl, SqL.of (e1 _ _ hl), hu, kk u H1 e1 (ru.mono (hid_same e1))⟩
theorem t_truOwn (C : Kb X W S) (N : Nm X i x) (hi : g[i]? = some (.own ds)) : XT X S g (.Name x pos) (!ds.isEmpty) :=
  ptI (pt_truth (pe_var N.n N.vis N.dbg N.cdt) fun _ => rfl) fun σ H Q ⟨B, M, st, kk⟩ => by
    obtain ⟨l, vs, ht, hm, h0, hl, r⟩ := st.own hi
    refine ⟨.ref l, ht, _, .inl ⟨vs, SqL.of hl, rfl⟩, ?_⟩
    rw [reps_empty r]
    exact kk H (Same.refl H)
end

/-! ### a def keeps its promise -/
def poOf : Out → Po
  | .ok d => { nx := fun _ => d = .non, rt := fun d' => d' = d }
  | .err c fs => { nx := fun _ => False, rt := fun _ => False, ex := fun c' fs' _ => c' = c ∧ fs' = fs }
  | .new d => { nx := fun _ => False, rt := fun _ => False, rn := fun d' => d' = d }
theorem start_get {N : List Str} {vs : List V} {i : Nat} {v : V} (h : vs[i]? = some v) : (L2.start N vs)[i]? = some (some v) := by
  have hi : i < vs.length := (List.getElem?_eq_some_iff.mp h).1
  unfold L2.start
  rw [List.getElem?_append_left (by simpa using hi), List.getElem?_map, h]
  rfl
def enOf (n : Nat) (ds : List D) : En := ds.map .v ++ List.replicate (n - ds.length) .no
theorem stt_start {S : Sg} {M : List Addr} {H : Hp} {N : List Str} {vs : List V} {ds : List D} (tr : ∀ a ∈ M, H a ≠ none) (r : Reps S (hid M H) vs ds) :
    Stt S ⟨H, M, fun _ => True, fun _ _ _ _ => trivial⟩ M (enOf N.length ds) (L2.start N vs) H where
  same := Same.refl H
  sub := fun _ h => h
  new := fun _ h => .inl h
  trk := tr
  sl := fun i s hi => by
    unfold enOf at hi
    by_cases hl : i < ds.length
    · rw [List.getElem?_append_left (by simpa using hl), List.getElem?_map] at hi
      cases e : ds[i]? with
      | none => rw [e] at hi; cases hi
      | some d =>
        rw [e] at hi
        have hs := Option.some.inj hi
        subst hs
        obtain ⟨v, hv, rv⟩ := r.get e
        exact ⟨some v, start_get hv, v, rfl, rv⟩
    · rw [List.getElem?_append_right (by simpa using hl), List.getElem?_replicate] at hi
      split at hi
      · rename_i hc
        have hs := Option.some.inj hi
        subst hs
        rw [List.length_map] at hc
        refine ⟨none, ?_, trivial⟩
        unfold L2.start
        have hr := r.length
        rw [List.getElem?_append_right (by rw [List.length_map]; omega), List.getElem?_replicate, List.length_map, if_pos (by omega)]
      · cases hi
  gh := trivial
  apart := fun i j s u v hij h1 _ m1 _ _ _ => by
    unfold enOf at h1
    by_cases hl : i < ds.length
    · rw [List.getElem?_append_left (by simpa using hl), List.getElem?_map] at h1
      cases e : ds[i]? with
      | none => rw [e] at h1; cases h1
      | some d =>
        rw [e] at h1
        have q := Option.some.inj h1
        subst q
        cases m1
    · rw [List.getElem?_append_right (by simpa using hl), List.getElem?_replicate] at h1
      split at h1
      · have q := Option.some.inj h1
        subst q
        cases m1
      · cases h1

/-- the names of a body -/
structure In0 (X : Cx) (W : Wd) (S : Sg) (N : List Str) (sc : Scope) : Prop extends Kb X W S where
  N : X.N = N
  sc : X.env.scope = sc
  fn : ∀ x, X.fn x = true
/-- the body of a def: what its proof may use -/
structure InB (X : Cx) (W : Wd) (S : Sg) (k : Nat) (N : List Str) (sc : Scope) (U : WX) : Prop extends In0 X W S N sc where
  C : Cc X W S k
  tk : L2N.Takes X U
  fr : X.stack = X.env :: X.outer ∧ X.env.frame = some X.env.locals
/-- .. while an exception is handled -/
structure InH (X : Cx) (W : Wd) (S : Sg) (k : Nat) (N : List Str) (sc : Scope) : Prop extends In0 X W S N sc where
  C : Hc X W S k
section
variable {X : Cx} {W : Wd} {S : Sg} {k : Nat} {N : List Str} {sc : Scope}
theorem In0.nm (b : In0 X W S N sc) (i : Nat) (x : Str) (h : N[i]? = some x) (hv : sc.names.lookup x = some .local ∨ sc.names.lookup x = some .cell)
    (h1 : (x == ("__debug__" : Str)) = false) (h2 : (x == ("__classdict__" : Str)) = false) : Nm X i x ∧ Nl X i x :=
  ⟨⟨by rw [b.N]; exact h, by unfold Vis; rw [b.sc]; exact hv.elim .inl fun z => .inr (.inl z), h1, h2⟩, ⟨by rw [b.N]; exact h, by unfold L2.Loc; rw [b.sc]; exact hv, .inl (b.fn x)⟩⟩
theorem In0.ng (b : In0 X W S N sc) (x : Str) (h : sc.names.lookup x = some .globalImplicit) (h1 : (x == ("__debug__" : Str)) = false) : Ng X x :=
  ⟨by show X.env.scope.names.lookup x = _; rw [b.sc]; exact h, h1⟩
theorem Kb.mg (b : Kb X W S) {x : Str} {o : Option Value} (h : W.mg x = o) : X.mg x = o := (congrArg (fun w => Wd.mg w x) b.wd).trans h
end

/-- a def as it stands: dvs its defaults -/
abbrev Fd (K : PySem.W.Frag) (x qual : Str) (st : Stmt) (dvs : List V) (f : Addr) (fd : FuncData) : Prop := FunD K x qual (defArgs st) (defBody st) (defScope st) dvs [] f fd
theorem def_ok {W : Wd} {S : Sg} {x qual : Str} {st : Stmt} {dvs : List V} {f : Addr} {fd : FuncData} {N ps : List Str} {k : Nat} {R : List D → Out → Prop} (F : Fd W.K x qual st dvs f fd) (hK : W.K = S.K) (sc : FnScope N ps (defScope st))
    (hlen : ∀ ds o, R ds o → ds.length = ps.length)
    (body : ∀ (X : Cx) (U : WX) (ds : List D) (o : Out), InB X W S k N (defScope st) U → R ds o → XB X S U (enOf N.length ds) (defBody st) (poOf o)) :
    FnOk W.P W.w W.K W.mg W.base (L2N.CX W.P W.w) (k + 1) f fd ps (spOf S ps.length R) := by
  obtain ⟨oc, od, dV, kV, doc, pm, an, cdv, ct, osl, rfl, lk, hcd, _, _⟩ := F.ex
  refine fn_of lk hcd sc (fun vs H Q E h => h.1) (fun A outer s H vs Q E hr h => ?_)
  obtain ⟨hl, M, ds, o, tr, r, hR, ho⟩ := h
  refine ⟨_, body _ (fun cls d _ H => E cls d H) ds o ⟨⟨⟨rfl, hK, passes_of rfl, sc.nd⟩, rfl, rfl, fun _ => rfl⟩, ⟨⟨rfl, hK, passes_of rfl, sc.nd⟩, rfl, hr⟩, L2N.takes_of rfl rfl rfl rfl, rfl, rfl⟩ hR, ?_⟩
  refine ⟨⟨H, M, fun _ => True, fun _ _ _ _ => trivial⟩, M, stt_start tr r, ?_, ?_⟩
  · cases o with
    | ok d =>
      refine ⟨fun g M' t H' hz st => ?_, fun v H' d' hz e r' => ?_, fun _ _ _ _ z => z.elim, fun _ _ _ _ z => z.elim, fun _ _ _ z => z.elim⟩
      · have hz' : d = .non := hz
        subst hz'
        exact ho .non H' st.same .non
      · have hz' : d' = d := hz
        subst hz'
        exact ho v H' e r'
    | err c fs => exact ⟨fun _ _ _ _ z => z.elim, fun _ _ _ z => z.elim, fun _ _ _ _ z => z.elim, fun _ _ _ _ z => z.elim, fun _ _ _ z => z.elim⟩
    | new d => exact ⟨fun _ _ _ _ z => z.elim, fun _ _ _ z => z.elim, fun _ _ _ _ z => z.elim, fun _ _ _ _ z => z.elim, fun p H' d' hz e hp nw => by
        have hz' : d' = d := hz
        subst hz'
        exact ho p H' hp e nw⟩
  · intro c fs dx ws g M' t H' hx st xd
    cases o with
    | ok d => exact hx.elim
    | new d => exact hx.elim
    | err c' fs' =>
      obtain ⟨rfl, rfl⟩ := hx
      exact ho dx ws H' st.same (fun h => let ⟨p, q, r⟩ := xd h; ⟨p, q, r.mono st.out⟩)
/-- a def as it is called while an exception is handled (it raises nothing) -/
theorem def_hot {W : Wd} {S : Sg} {x qual : Str} {st : Stmt} {dvs : List V} {f : Addr} {fd : FuncData} {N ps : List Str} {k : Nat} {R : List D → Out → Prop} (F : Fd W.K x qual st dvs f fd) (hK : W.K = S.K) (sc : FnScope N ps (defScope st))
    (hR0 : ∀ ds o, R ds o → ∃ d, o = .ok d)
    (body : ∀ (X : Cx) (U : WX) (ds : List D) (o : Out), InH X W S k N (defScope st) → R ds o → XB X S U (enOf N.length ds) (defBody st) (poOf o)) :
    L2H.FnH W.P W.w W.K W.mg W.base (L2N.CX W.P W.w) (k + 1) f fd ps (spOf S ps.length R) := by
  obtain ⟨oc, od, dV, kV, doc, pm, an, cdv, ct, osl, rfl, lk, hcd, _, _⟩ := F.ex
  refine L2H.fn_ofH lk hcd sc (fun vs H Q E h => h.1) (fun A outer s H vs Q E p hot hr h => ?_)
  obtain ⟨hl, M, ds, o, tr, r, hR, ho⟩ := h
  refine ⟨_, body _ (fun _ _ _ _ => True) ds o ⟨⟨⟨rfl, hK, passes_of rfl, sc.nd⟩, rfl, rfl, fun _ => rfl⟩, ⟨⟨rfl, hK, passes_of rfl, sc.nd⟩, ⟨p, ⟨hot.1, hot.2⟩, List.mem_cons_self⟩, hr⟩⟩ hR, ?_⟩
  obtain ⟨d, rfl⟩ := hR0 ds o hR
  refine ⟨⟨H, M, fun _ => True, fun _ _ _ _ => trivial⟩, M, stt_start tr r, ?_, ?_⟩
  · refine ⟨fun g M' t H' hz st => ?_, fun v H' d' hz e r' => ?_, fun _ _ _ _ z => z.elim, fun _ _ _ _ z => z.elim, fun _ _ _ z => z.elim⟩
    · have hz' : d = .non := hz
      subst hz'
      exact ho .non H' st.same .non
    · have hz' : d' = d := hz
      subst hz'
      exact ho v H' e r'
  · intro c fs dx ws g M' t H' hx
    exact hx.elim
end Fw

set_option Elab.async false
set_option linter.all false
set_option maxRecDepth 100000
set_option maxHeartbeats 4000000
namespace Fw
open PySem L2
section
variable {X : Cx} {W : Wd} {S : Sg} {U : WX} {k : Nat} {g g' : En} {P : Po} {a b : Expr} {d e : D} {x y : Str} {i j : Nat} {pos px py pt : Pos} {N : List Str} {sc : Scope}
theorem Stt.set2 {B : Bs} {M : List Addr} {t : L2.St} {H : Hp} (h : Stt S B M g t H) {v w : V} (rv : Rep S (hid M H) v d) (rw' : Rep S (hid M H) w e) : Stt S B M ((g.set i (.v d)).set j (.v e)) ((t.set i (some v)).set j (some w)) H :=
  (h.set i rv).set j rw'
/-- a, b = x, y with plain local names -/
theorem s_par {kt k2 : Nat} {pt2 : Pos} (b' : InB X W S k N sc U) (Nx : Nl X i x) (Ny : Nl X j y) (ha : XE X S g a d) (hb : XE X S g b e) (h : P.nx ((g.set i (.v d)).set j (.v e)))
    (hx : sc.names.lookup x = some .local := by rfl) (hy : sc.names.lookup y = some .local := by rfl) (hij : i ≠ j := by decide)
    (hw : ∀ env : Env, env.scope = sc → swappedStores [.Tuple [.Name x px, .Name y py] kt pt] (.Tuple [a, b] k2 pt2) env = pure (some [x, y]) := by exact (fun env h => by cases env; cases h; rfl))
    (hs : swapsWithSole [.Tuple [.Name x px, .Name y py] kt pt] (.Tuple [a, b] k2 pt2) pos.line X.env = pure false := by rfl)
    (h1 : starEach [a, b] X.env = (false, eval a X.env) :: starEach [b] X.env := by rfl) (h2 : starEach [b] X.env = (false, eval b X.env) :: starEach [] X.env := by rfl) :
    XS X S U g (.Assign [.Tuple [.Name x px, .Name y py] kt pt] (.Tuple [a, b] k2 pt2) pos) P :=
  psI (ps_par b'.C.calm b'.nd Nx.n Ny.n hij (by rw [b'.sc]; exact hx) (by rw [b'.sc]; exact hy) (a_cons ha (a_cons hb a_nil h2) h1) (hw _ b'.sc) hs) fun E σ H ⟨B, M, st, c, _⟩ => ⟨B, M, st, fun vs H1 e1 r => by
    obtain ⟨v, w, e2, r1, r2⟩ := r.two
    exact ⟨v, w, e2, c.nx _ M _ H1 h ((st.mono e1).set2 r1 r2)⟩⟩
end
end Fw

set_option Elab.async false
set_option linter.all false
set_option maxRecDepth 100000
set_option maxHeartbeats 4000000
namespace Fw
open PySem L2

/-! ### field lists -/
section
variable {S : Sg} {H : Hp}
theorem RepF.append : ∀ {a : List (Str × V)} {b : List (Str × D)} {c : List (Str × V)} {d : List (Str × D)}, RepF S H a b → RepF S H c d → RepF S H (a ++ c) (b ++ d)
  | _, _, _, _, .nil, s => s
  | _, _, _, _, .cons h t, s => .cons h (RepF.append t s)
theorem RepF.rev : ∀ {a : List (Str × V)} {b : List (Str × D)}, RepF S H a b → RepF S H a.reverse b.reverse
  | _, _, .nil => .nil
  | (f, v) :: a, (_, d) :: b, .cons h t => by
    rw [List.reverse_cons, List.reverse_cons]
    exact (RepF.rev t).append (.cons h .nil)
theorem RepF.zip : ∀ {ps : List Str} {vs : List V} {ds : List D}, Reps S H vs ds → RepF S H (ps.zip vs) (ps.zip ds)
  | [], _, _, _ => .nil
  | _ :: _, _, _, .nil => .nil
  | _ :: _, _, _, .cons h t => .cons h (RepF.zip t)
theorem RepF.look : ∀ {a : List (Str × V)} {b : List (Str × D)} {f : Str} {d : D}, RepF S H a b → b.lookup f = some d → ∃ v, a.lookup f = some v ∧ Rep S H v d
  | _, _, _, _, .nil, e => by cases e
  | (n, v) :: a, (_, d') :: b, f, d, .cons h t, e => by
    by_cases q : f == n
    · simp only [List.lookup, q] at e ⊢
      cases e
      exact ⟨v, rfl, h⟩
    · simp only [List.lookup, q] at e ⊢
      exact RepF.look t e
theorem RepF.none : ∀ {a : List (Str × V)} {b : List (Str × D)} {f : Str}, RepF S H a b → b.lookup f = Option.none → a.lookup f = Option.none
  | _, _, _, .nil, e => rfl
  | (n, v) :: a, (_, d') :: b, f, .cons h t, e => by
    by_cases q : f == n
    · simp only [List.lookup, q] at e
      cases e
    · simp only [List.lookup, q] at e ⊢
      exact RepF.none t e
theorem RepF.len : ∀ {a : List (Str × V)} {b : List (Str × D)}, RepF S H a b → a.length = b.length
  | _, _, .nil => rfl
  | _, _, .cons h t => congrArg Nat.succ (RepF.len t)
end

/-! ### errors -/
/-- the promise of an error's __init__ that stores its arguments -/
def errSp (C : Addr) (ps : List Str) : Sp := fun vs H Q _ => ∃ a us, vs = .ref a :: us ∧ us.length = ps.length ∧ H a = some (exo a C none) ∧ ∀ d, H d = none → d ≠ a → Q .non (upd (upd H d (exd d (ps.zip us).reverse)) a (exo a C (some d)))
/-- an error class of the program -/
structure ErrC (W : Wd) (S : Sg) (c : Nat) (x : Str) (ps : List Str) : Prop where
  gC : W.mg x = some (.ref (S.cX c))
  ox : OexC W.K (S.cX c)
  xf : XfC W.K (S.cX c)
  ec : ExcC W.K (S.cX c)
  self : PySem.W.exmOne W.K (.ref (S.cX c)) (.ref (S.cX c)) = some true
  noF : ∀ f ∈ ps, PySem.W.findIn W.K (.ref (S.cX c)) f = some none
  init : ∃ fI fd, PySem.W.findIn W.K (.ref (S.cX c)) "__init__" = some (some (.ref fI)) ∧ PySem.W.typeIn W.K (.ref fI) = some (.type "function") ∧
    FnOk W.P W.w W.K W.mg W.base (L2N.CX W.P W.w) 1 fI fd ("self" :: ps) (errSp (S.cX c) ps) ∧ Binds W.K fd ("self" :: ps) []

theorem pmk_err {X : Cx} {e : Expr} {es : List Expr} {ta : TA} {x : Str} {p pos : Pos} {C fI : Addr} {k : Nat} {fd : FuncData} {ps : List Str} {sp : Sp} (T : OexC X.K C) (iC : PySem.W.findIn X.K (.ref C) "__init__" = some (some (.ref fI)))
    (tI : PySem.W.typeIn X.K (.ref fI) = some (.type "function")) (F1 : FnOk X.prog X.w X.K X.mg X.base (L2N.CX X.prog X.w) k fI fd ps sp) (hr : Room (k + 1) X.A) (hb : Binds X.K fd ps []) (G : Ng X x) (hm : X.mg x = some (.ref C)) (ha : PA X (e :: es) ta)
    (he : starEach (e :: es) X.env = (false, eval e X.env) :: starEach es X.env := by rfl) (hpl : (backTo pos (starEach es X.env)).any (·.1) = false := by rfl) : L2N.PMk X (.Call (.Name x p) (e :: es) [] pos) (tMkO C sp [] ta) := by
  intro pins s σ H Q I h
  obtain ⟨nm, q, N, bs, bm, sn, sub, ab, col, dd, k0, k1, k2, k3, k5, hC, hbm⟩ := T.cls; refine wpAny_Call_Name_kw (ld_glob I G.gl hm ?_ G.dbg)
  refine PySem.W.callWith_K (h₀ := X.base) I.ok.mod.kin T.kC (wpAny_mono (ha.run pos pins s σ H _ I h) (fun us s1 w => ?_) fun _ _ z => z) he hpl
  obtain ⟨vs, H1, I1, r1, hz, q1⟩ := w
  refine ⟨I1.kIn, (show wpAny _ _ (call (.ref C) us) _ _ _ from ?_)⟩
  obtain ⟨hp, g, dr, tk, os⟩ := s1
  obtain ⟨n, hn0⟩ : ∃ n, n = hp.objs.size + 1 := ⟨_, rfl⟩
  have le : hp.objs.size ≤ n := by omega
  have hq := q1 n (I1.hok.fresh le); rw [List.append_nil] at hq
  obtain ⟨h', hh'⟩ : ∃ h', h' = (hp.push (PySem.W.kdv_tup us)).push (PySem.HandSPX.excO C hp.objs.size) := ⟨_, rfl⟩
  have kk : ∀ b o, hp.get? b = some o → h'.get? b = some o := by
    rw [hh']; exact fun b o z => Heap.get?_push_of_some _ (Heap.get?_push_of_some _ z)
  have hget : h'.get? n = some (PySem.HandSPX.excO C hp.objs.size) := by
    rw [hh', hn0]; heap_get
  have I2 : Inv X pins σ (upd H1 n (exo n C none)) ⟨h', g, dr, tk, os⟩ := I1.laid (t' := tk) kk le (exo_ok hget)
  have r2 : Vals (.ref n :: vs) (.ref n :: us) := .cons rfl r1
  have hl : (Value.ref n :: us ++ []).length = ps.length := by
    rw [List.append_nil, ← r2.length]; exact F1.len _ _ _ _ hq
  have b2 := hb ⟨h', g, dr, tk, os⟩ (.ref n :: us) I2.kIn hl; rw [List.append_nil] at b2
  have hus : us.length ≤ sizeLine := by
    rw [← r1.length, sizeLine_eq]; omega
  have body := F1.run (X.A.under (.builtin "type.__call__" ⟨.ref C :: us, []⟩)) X.stack ⟨h', g, dr, tk, os⟩ _ ⟨.ref n :: us, []⟩ (.ref n :: us) _ _ E0 (hr.make C us []) (I2.env0.make C us []) b2 r2 hq
  subst hh'; subst hn0
  refine wpAny_call (PySem.HandSPX.call_own F.excBase_ValueError (fun Y => PySem.HandSPX.refsVE_contains Y bm hbm) (I1.kIn _ _ hC) (PySem.W.looks_findIn I1.kIn iC) (fun self => PySem.W.bind_fn I1.kIn self tI) hus (codeAny_mono body fun r s' w => ?_))
  cases r with
  | error er => exact passN pins σ _ _ er s' I2 w
  | ok fl =>
    cases fl with
    | ret u =>
      obtain ⟨v, H2, os2, bare2, un2, hok2, rv, ev, d, fs, ea, ed, hd1, q2⟩ := w
      subst ev; obtain ⟨h2, g2, d2, t2, os'⟩ := s'
      obtain ⟨t0, G', J, kG, ge, hoe, na⟩ := mk_end0 (d2 := d2) (t2 := t2) I1 le kk un2 hok2 os2 bare2 ea ed hd1
      refine ⟨rv, ⟨_, _, _, ⟨G', g2, d2, t2, os'⟩, _, .ref C, some d, rfl, J, kG, ge, hoe, ⟨rfl, rfl, fun vs hv => ?_⟩, rfl, rfl, na, rfl, bare2, raises_own T.exC T.tyC, q2⟩⟩
      cases hv; rfl
    | next => exact w.elim
    | brk => exact w.elim
    | cont => exact w.elim

section
variable {X : Cx} {W : Wd} {S : Sg} {U : WX} {k j : Nat} {g g' : En} {P : Po} {e : Expr} {es : List Expr} {d : D} {ds dd : List D} {x : Str} {ps : List Str} {i n c : Nat} {fs : List (Str × D)} {pos p pos' : Pos} {R : List D → Out → Prop}
theorem s_raise (C : Cc X W S k) (tk : L2N.Takes X U) (E : ErrC W S c x ps) (G : Ng X x) (ha : XA X S g (e :: es) ds) (hx : P.ex c ((ps.zip ds).reverse) g) (hn : ds.length = ps.length := by rfl) (hk : 2 ≤ k := by decide) (hl : ds.length ≤ 1000 := by decide) (hps : ps ≠ [] := by exact fun z => nomatch z)
    (he : starEach (e :: es) X.env = (false, eval e X.env) :: starEach es X.env := by rfl) (hpl : (backTo pos (starEach es X.env)).any (·.1) = false := by rfl) : XS X S U g (.Raise (some (.Call (.Name x p) (e :: es) [] pos)) none pos') P := by
  obtain ⟨fI, fd, iC, tI, F, hb⟩ := E.init
  have gC := E.gC
  have ox := E.ox
  obtain ⟨⟨w1, w2, w3, w4⟩, c1, c2⟩ := C
  subst w1
  refine psI (L2N.ps_raise c1 tk (pmk_err ox iC tI F (c2.mono hk) hb G gC ha he hpl)) fun E' σ H ⟨B, M, st, c0, cx⟩ => ?_
  refine ⟨B, M, st, fun vs H1 e1 r => ⟨by rw [r.length]; exact hl, fun a ha => ?_⟩⟩
  refine ⟨a, vs ++ [], rfl, by rw [List.append_nil, r.length, hn], upd_same, fun d hd hne => ⟨rfl, d, _, upd_same, by rw [upd_ne hne]; exact upd_same, ?_, ?_⟩⟩
  · rw [upd_ne hne] at hd; exact hd
  · rw [upd_ne hne] at hd
    have same3 : Same H1 (upd (del (upd (upd (upd H1 a (exo a (S.cX c) none)) d (exd d (ps.zip (vs ++ [])).reverse)) a (exo a (S.cX c) (some d))) a) d (.xd (ps.zip (vs ++ [])).reverse)) := fun b o z => by
      have nb : b ≠ a := ne_of_none z ha
      have nd : b ≠ d := ne_of_none z hd
      rw [upd_ne nd, del_ne nb, upd_ne nb, upd_ne nd, upd_ne nb]
      exact z
    have nz : (ps.zip ds).reverse ≠ [] := fun z => by
      have q := congrArg List.length z
      rw [List.length_reverse, List.length_zip, hn, Nat.min_self] at q
      exact hps (List.length_eq_zero_iff.mp q)
    have key := cx c _ d (ps.zip (vs ++ [])).reverse g M σ _ hx (st.mono (e1.trans same3)) (fun _ => ⟨(st.same.trans e1).free hd, upd_same, by
      rw [List.append_nil]
      rw [List.append_nil] at same3
      exact (RepF.zip r).rev.mono (hid_same same3)⟩)
    rw [dOf_some nz] at key
    exact key

/-! ### an expression that raises -/
def XR (X : Cx) (S : Sg) (U : WX) (g : En) (e : Expr) (c : Nat) (fs : List (Str × D)) : Prop :=
  PE X e fun t H _ => ∃ B M, Stt S B M g t H ∧ ∀ dx ws H', Same H H' → Xd S H H' M fs dx ws → U (.ref (S.cX c)) (dOf fs dx) t H'
theorem XR.wish {B : Bs} {M : List Addr} {t : L2.St} {H : Hp} (cx : Cx' S B U P) (hx : P.ex c fs g) (st : Stt S B M g t H) : ∀ dx ws H', Same H H' → Xd S H H' M fs dx ws → U (.ref (S.cX c)) (dOf fs dx) t H' :=
  fun dx ws H' e x => cx c fs dx ws g M t H' hx (st.mono e) (x.back st.same)
theorem s_exprR (he : XR X S U g e c fs) (hx : P.ex c fs g) (hs : swapsWith e none pos.line X.env = pure false := by rfl) : XS X S U g (.Expr e pos) P :=
  psI (ps_expr he hs) fun E σ H ⟨B, M, st, _, cx⟩ => ⟨B, M, st, XR.wish cx hx st⟩
theorem s_retR (he : XR X S U g e c fs) (hx : P.ex c fs g) : XS X S U g (.Return (some e) pos) P :=
  psI (ps_ret he) fun E σ H ⟨B, M, st, _, cx⟩ => ⟨B, M, st, XR.wish cx hx st⟩
theorem s_asgR (C : Kb X W S) (N : Nl X i x) (he : XR X S U g e c fs) (hx : P.ex c fs g) (hs : swapsWith e (some (.Name x p)) pos.line X.env = pure false := by rfl) : XS X S U g (.Assign [.Name x p] e pos) P :=
  psI (ps_set C.nd N.n N.loc he hs N.fn) fun E σ H ⟨B, M, st, _, cx⟩ => ⟨B, M, st, XR.wish cx hx st⟩
/-- a call with all that it may let out, at the slots as they stand -/
theorem run_S {k : Nat} {f : Addr} {fd : FuncData} {ps : List Str} {sp : Sp} {us : List Value} {dvs : List V} (U : WX) (F : FnOk X.prog X.w X.K X.mg X.base (L2N.CX X.prog X.w) k f fd ps sp) (hr : Room k X.A) (hb : Binds X.K fd ps us) (hv : Vals dvs us) (tk : L2N.Takes X U)
    {pins : List (Addr × Obj)} {σ : L2.St} {H : Hp} {s : Shared} {Q : VK} {ws : List Value} {vs : List V} (I : Inv X pins σ H s) (r : Vals vs ws) (h : sp (vs ++ dvs) H Q (WE U σ)) : wpAny (model X.prog X.w) X.A (call (.ref f) ws) (EP X pins σ Q) X.xe s := by
  have r2 : Vals (vs ++ dvs) (ws ++ us) := r.append hv
  have hl : (ws ++ us).length = ps.length := by
    rw [← r2.length]; exact F.len _ _ _ _ h
  refine wpAny_call (codeAny_mono (F.run X.A X.stack s H ⟨ws, []⟩ (ws ++ us) (vs ++ dvs) Q (WE U σ) hr I.env0 (hb s ws I.kIn hl) r2 h) fun r s' w => ?_)
  cases r with
  | error e => exact L2N.passAt tk σ pins H s e s' I w
  | ok fl =>
    cases fl with
    | ret u => exact I.after w
    | next => exact w.elim
    | brk => exact w.elim
    | cont => exact w.elim
theorem r_call (C : Cc X W S k) (tk : L2N.Takes X U) (F : Fn W S j x n dd R) (G : Ng X x) (ha : XA X S g (e :: es) ds) (hR : R (ds ++ dd) (.err c fs)) (hn : ds.length = n := by rfl) (hj : j ≤ k := by decide)
    (he : starEach (e :: es) X.env = (false, eval e X.env) :: starEach es X.env := by rfl) (hpl : (backTo pos (starEach es X.env)).any (·.1) = false := by rfl) : XR X S U g (.Call (.Name x p) (e :: es) [] pos) c fs := by
  obtain ⟨f, fd, ps, F, hm, hk, hl, dvs, us, hb, hv, hd⟩ := F.ex
  obtain ⟨⟨w1, w2, c3, c4⟩, c1, c2⟩ := C
  subst w1
  refine ⟨fun pins s σ H Q I w => ?_⟩
  obtain ⟨B, M, st, wish⟩ := w
  refine wpAny_Call_Name_kw (ld_glob I G.gl hm ?_ G.dbg)
  refine PySem.W.callWith_K (h₀ := X.base) I.ok.mod.kin hk (wpAny_mono (ha.run pos pins s σ H (fun vs H1 => Same H H1 ∧ Reps S (hid M H1) vs ds) I ⟨B, M, st, fun vs H1 e1 r => ⟨e1, r⟩⟩) (fun ws s1 w => ?_) fun _ _ z => z) he hpl
  obtain ⟨vs, H1, I1, r1, e1, rr⟩ := w
  refine ⟨I1.kIn, run_S U F (c2.mono hj) hb hv tk I1 r1 ⟨by rw [List.length_append, rr.length, (hd H).length, hl, hn], M, _, _, (st.mono e1).trk, rr.append (hd _), hR, fun dx ws H' e x => wish dx ws H' (e1.trans e) (x.back e1)⟩⟩
end

/-! ### try: .. except C as n: .. -/
/-- a try's body -/
theorem InB.try {X : Cx} {W : Wd} {S : Sg} {k : Nat} {N : List Str} {sc : Scope} {U U' : WX} (b : InB X W S k N sc U) {pn : List (Addr × Obj)} {xe : Value → Shared → Prop} (tk : L2N.Takes (X.tr pn xe) U') (own : PassesOwn (model X.prog X.w) X.A X.env xe) :
    InB (X.tr pn xe) W S k N sc U' :=
  ⟨⟨⟨b.wd, b.K, own, b.nd⟩, b.N, b.sc, b.fn⟩, ⟨⟨b.wd, b.K, own, b.nd⟩, b.C.calm, b.C.room⟩, tk, b.fr⟩
/-- an except suite's context: the exception at a, of the class c -/
structure InS (X : Cx) (W : Wd) (S : Sg) (k : Nat) (N : List Str) (sc : Scope) (a : Addr) (c : Nat) (dd : Addr) : Prop extends InH X W S k N sc where
  ex : ∃ X0 oe pn, X = Cx.suite X0 a ((a, oe) :: pn) ∧ Zc (.ref (S.cX c)) (some dd) oe ∧ ∃ vs, oe.data = .fields vs
theorem s_try {X : Cx} {W : Wd} {S : Sg} {U : WX} {k : Nat} {N : List Str} {sc : Scope} {g : En} {P : Po} {x n : Str} {i c0 : Nat} {ps : List Str} {body suite : List Stmt} {b0 : Stmt} {np pos pos' : Pos} (b : InB X W S k N sc U) (E : ErrC W S c0 x ps) (G : Ng X x) (Nn : Nl X i n)
    (hln : sc.names.lookup n = some .local) (Ex : Nat → List (Str × D) → En → Prop) (hc : ∀ c fs g', Ex c fs g' → PySem.W.exmOne W.K (.ref (S.cX c)) (.ref (S.cX c0)) = some true)
    (hb : ∀ X' U', InB X' W S k N sc U' → XB X' S U' g body { P with ex := Ex })
    (hs : ∀ X' U' c fs g' a dd, Ex c fs g' → InS X' W S k N sc a c dd → XB X' S U' (g'.set i (.exc a dd c fs)) (b0 :: suite) { nx := fun g2 => P.nx (g2.set i .no), rt := P.rt, bk := fun g2 => P.bk (g2.set i .no), ct := fun g2 => P.ct (g2.set i .no), rn := P.rn })
    (hne : ∀ c fs g', Ex c fs g' → fs ≠ [] := by (intro _ _ _ h; first | (obtain ⟨_, rfl, _⟩ := h; exact fun z => nomatch z) | (obtain ⟨_, rfl⟩ := h; exact fun z => nomatch z) | (obtain ⟨_, _, rfl, _⟩ := h; exact fun z => nomatch z) | (obtain ⟨_, _, _, rfl, _⟩ := h; exact fun z => nomatch z))) :
    XS X S U g (.Try body [.ExceptHandler (some (.Name x np)) (some n) (b0 :: suite) pos'] [] [] pos) P := by
  have hmg := b.toKb.mg E.gC
  have Kx : X.K = W.K := congrArg Wd.K b.wd
  let ts : Addr → Value → Option Addr → TS := fun a cls d E t H => ∃ c fs g' dd B M, cls = .ref (S.cX c) ∧ d = some dd ∧ Ex c fs g' ∧ Stt S B M (g'.set i (.exc a dd c fs)) t H ∧
    Ct S B (fun _ _ _ _ => True) { nx := fun g2 => P.nx (g2.set i .no), rt := P.rt, bk := fun g2 => P.bk (g2.set i .no), ct := fun g2 => P.ct (g2.set i .no), rn := P.rn } E
  refine psI (L2N.ps_try_as (tb := fun U' E t H => ∃ B M, Stt S B M g t H ∧ Ct S B U' { P with ex := Ex } E ∧ Cx' S B U' { P with ex := Ex }) (ts := ts) (Wout := U) b.fr.1 b.fr.2 b.nd Nn.n (by show X.env.scope.names.lookup n = _; rw [b.sc]; exact hln) ⟨G.gl, G.dbg, .inl hmg⟩ b.tk
    (fun U' pn xe tk own => hb _ U' (b.try tk own)) (fun a oe cls d pn hz hf => ⟨fun pins s σ H E I w => ?_⟩)) fun E σ H ⟨B, M, st, c, cx⟩ => ?_
  · obtain ⟨c, fs, g', dd, B, M, rfl, rfl, hx, st, ct⟩ := w
    obtain ⟨vs, hd⟩ := hf
    have IH : InH (X.suite a ((a, oe) :: pn)) W S k N sc := ⟨⟨⟨b.wd, b.K, PassesOwn.never, b.nd⟩, b.N, b.sc, b.fn⟩, ⟨⟨b.wd, b.K, PassesOwn.never, b.nd⟩, ⟨(a, oe), ⟨rfl, vs, hd, hz.2.2 vs hd⟩, List.mem_cons_self⟩, L2H.roomH_mark b.C.room _⟩⟩
    exact (hs _ (fun _ _ _ _ => True) c fs g' a dd hx ⟨IH, X, oe, pn, rfl, hz.zc, vs, hd⟩).run pins s σ H E I ⟨B, M, st, ct, fun _ _ _ _ _ _ _ _ z => z.elim⟩
  · refine ⟨B, M, st, ⟨c.nx, c.rt, c.bk, c.ct, c.rn⟩, fun c' fs dx ws g' M' t H' hx st' xd => ?_⟩
    obtain ⟨hn, hd, r⟩ := xd (hne c' fs g' hx)
    rw [dOf_some (hne c' fs g' hx)]
    refine ⟨true, by rw [Kx]; exact hc c' fs g' hx, fun _ a ha => ?_, fun z => Bool.noConfusion z⟩
    refine ⟨c', fs, g', dx, B, M', rfl, rfl, hx, st'.put i rfl ⟨rfl, fun _ => ⟨ws, hd, r⟩⟩, ⟨fun g2 M2 t2 H2 z q => ?_, c.rt, fun g2 M2 t2 H2 z q => ?_, fun g2 M2 t2 H2 z q => ?_, c.rn⟩⟩
    · exact c.nx _ M2 _ H2 z (q.put i rfl trivial)
    · exact c.bk _ M2 _ H2 z (q.put i rfl trivial)
    · exact c.ct _ M2 _ H2 z (q.put i rfl trivial)
end Fw

set_option Elab.async false
set_option linter.all false
set_option maxRecDepth 100000
set_option maxHeartbeats 4000000
namespace PySem.W
open PySem PySem.Spec PySem.Calls PyProof.Rows
section
variable {prog : Program} {w : World} {A : Around} {E : Value → Shared → Prop} {s : Shared} {K : Frag} {x D : Addr} {ox od : Obj}
/-- the class of an exception that has its own dict -/
theorem fw_classD {Q : Option Value → Shared → Prop} (ec : L2.ExcC K D) (X : K.In s.heap) (I : InstAt s.heap x ox D (some od)) (h : Q (some (.ref D)) { s with toks := s.toks + 1 }) : wpAny (model prog w) A (getAttr? (.ref x) "__class__") Q E s := by
  have hcl : (clsIn K D).isSome = true := by
    obtain ⟨cd, hc, _⟩ := any_some ec.hd
    rw [hc]; rfl
  have hf := findObj_data (od := od) hcl ec.ha ec.hn ec.ht
  obtain ⟨hh, gg, dr, tt, os⟩ := s
  have T0 := I.type (M := model prog w); have T1 := looks_findIn (M := model prog w) X ec.hg; have T2 := looks_findIn (M := model prog w) X ec.hk
  have T3 := looks_find (M := model prog w) X I hf
  have sb : Looks (model prog w) hh (isInstance (.ref x) (.type "BaseException")) true := T0.andThen (looks_subIn X ec.hs)
  have y2 : (Value.builtin "BaseException.__getattribute__" == Value.builtin "object.__getattribute__") = false := by decide +kernel
  have y0 : (false && onTheHeap (Value.builtin "BaseException.__getattribute__")) = false := by rfl
  have y1 : (onTheHeap (Value.ref D) && Value.builtin "BaseException.__getattribute__" == Value.builtin "object.__getattribute__") = false := by rw [y2] <;> rfl
  unfold getAttr? getAttrBy? getAttrBy; refine wpAny_bind (wpAny_mkText (wpAny_bind (wpAny_attempt (wpAny_holding (wpAny_bind (T0.at (wpAny_bind (T1.at ?_))))))))
  show wpAny _ _ (if (onTheHeap (Value.ref D) && Value.builtin "BaseException.__getattribute__" == Value.builtin "object.__getattribute__") = true then _ else _) _ _ _
  rw [y1, if_neg Bool.false_ne_true]; unfold getAttrByItsOwn hookBefore; refine wpAny_bind ?_
  rw [if_pos (show onTheHeap (Value.ref D) = true from rfl)]; refine T2.at (wpAny_bind (wpAny_attempt (wpAny_holding ?_)))
  unfold callGetattribute; rw [y0, if_neg Bool.false_ne_true]
  unfold boundAndCalled; rw [PySem.F.excAttr_ValueError.ga.bind (.ref x)]; refine wpAny_bind (wpAny_pure ?_)
  show wpAny _ _ (call (.builtin "BaseException.__getattribute__") [.ref x, .str "__class__" tt]) _ _ _
  refine wpAny_call (codeAny_call_builtin PySem.F.excAttr_ValueError.ga.plain PySem.F.entry_bexc_ga ?_)
  refine @check_slot (model prog w) _ _ ⟨hh, gg, dr, tt + 1, os⟩ "BaseException.__getattribute__" "BaseException" "__getattribute__" (.ref x) [.str "__class__" tt] [] _ (by decide +kernel) (by decide +kernel) sb (PySem.F.args_bexc_ga (.ref x) (.str "__class__" tt)) ?_
  unfold Builtin.«object.__getattribute__»; refine wpAny_bind (wpAny_of_eq (a := ((Value.ref x : Value), [Value.str "__class__" tt])) (by first | rfl | (simp only [slotArgs]; rfl)) ?_)
  refine wpAny_bind (wpAny_pure (wpAny_bind (T0.at (wpAny_bind (T3.at ?_)))))
  show wpAny _ _ (holding [Value.builtin "object.__class__"] (call (.builtin "getset_descriptor.__get__") [.builtin "object.__class__", .ref x, .ref D]) >>= ret) _ _ _
  refine wpAny_bind (wpAny_holding (wpAny_call (class_get (s := ⟨hh, gg, dr, tt + 1, os⟩) (ox := ox) (od := some od) X I ec.hm (wpAny_pure ?_))))
  show wpAny _ _ (handedOut (.ref D)) _ _ _
  rw [handedOut_of (v := .ref D) rfl]
  first
    | exact wpAny_pure (wpAny_pure h)
    | exact wpAny_pure h
    | exact wpAny_pure (wpAny_bind (wpAny_pure (wpAny_pure h)))
theorem fw_kitE (ec : L2.ExcC K D) : KitX K (.ref x) (.ref D) (fun h => InstAt h x ox D (some od)) where
  ty := fun _ _ _ I => I.type
  it := fun M h X _ => by
    obtain ⟨cd, hc, _⟩ := any_some ec.hd; unfold clsIn at hc
    split at hc
    · rename_i ho; intro A' Q' E' s' k q
      unfold isType loadHead; exact wpAny_bind (wpAny_loadPart (k _ _ (X _ _ ho)) (wpAny_pure q))
    · cases hc
  ne := fun h tp dd its n sl X htp => (handS_kitx_exc (x := x) (ox := { ox with dict := none }) ec.hg ec.hk ec.hs ec.hd ec.ha ec.hn ec.ht ec.hm).ne h tp dd its n sl X htp
  ca := fun X I k => fw_classD ec X I k
end
end PySem.W
namespace Fw
open PySem L2
section
variable {X : Cx} {W : Wd} {S : Sg} {U : WX} {k : Nat} {N : List Str} {sc : Scope} {g : En} {a dd : Addr} {c i : Nat} {fs : List (Str × D)} {ps : List Str} {x n f y : Str} {d : D} {bb : Bool} {pos p p2 : Pos}
/-- e.f in a suite -/
theorem e_exc (b : InS X W S k N sc a c dd) (E : ErrC W S c x ps) (Nn : Nm X i n) (hi : g[i]? = some (.exc a dd c fs)) (hf : f ∈ ps) (hd : fs.lookup f = some d) : Fw.XE X S g (.Attribute (.Name n p) f pos) d := by
  obtain ⟨X0, oe, pn, rfl, hz, hv⟩ := b.ex
  have Kx : X0.K = W.K := congrArg Wd.K b.wd
  have he : PE (X0.suite a ((a, oe) :: pn)) (.Name n p) (tVar i) := pe_var Nn.n Nn.vis Nn.dbg Nn.cdt
  refine peI (pe_xf (C := S.cX c) (by rw [Kx]; exact E.xf) (by rw [Kx]; exact E.noF f hf) hz hv he) fun σ H Q ⟨B, M, st, kk⟩ => ?_
  obtain ⟨o, ho, e1, x⟩ := st.sl i _ hi
  obtain ⟨ws, hdd, r⟩ := x (fun z => by rw [z] at hd; cases hd)
  obtain ⟨v, hl, rv⟩ := r.look hd
  exact ⟨.ref a, by rw [ho, e1], rfl, rfl, dd, ws, v, rfl, hdd, hl, kk v H (Same.refl H) rv⟩
/-- isinstance(e, C) in a suite -/
theorem call_isX {oe : Obj} {pn : List (Addr × Obj)} {X0 : Cx} (ec : ExcC X0.K (S.cX c)) (hz : Zc (.ref (S.cX c)) (some dd) oe) (hf : ∃ vs, oe.data = .fields vs) :
    CallR (X0.suite a ((a, oe) :: pn)) (.builtin "isinstance") (fun xs H Q => (∃ ws, H dd = some (.xd ws)) ∧ rIsE X0.K (S.cX c) a xs H Q) := by
  intro pins s σ H xs us Q I r ⟨⟨ws, hw⟩, h⟩
  obtain ⟨cc, cv, b, rfl, hcv, e, q⟩ := h
  cases r with
  | cons rx rr =>
    cases rr with
    | cons rt rr =>
      cases rr
      cases rx
      have ec' := hcv _ rt
      subst ec'
      obtain ⟨hget, _⟩ := I.pin (a, oe) (List.mem_append_left _ List.mem_cons_self)
      obtain ⟨vs, hv⟩ := hf
      have hx : ObjOk X0.prog X0.w H s.heap dd (.xd ws) := I.hok dd _ hw
      obtain ⟨mA, hns, _⟩ := hx
      obtain ⟨od, ho, _⟩ := lookIn_ns hns
      have J : PySem.W.InstAt s.heap a oe (S.cX c) (some od) := ⟨hget, hz.1, by unfold PySem.W.notCls; rw [hv] <;> rfl, by rw [hz.2]; exact ho⟩
      exact PySem.W.kia_one (PySem.W.fw_kitE ec) I.kIn J e (fun z => nomatch z) fun tk => ⟨.bl b, H, I.kept (t' := tk) fun _ _ z => z, rfl, q⟩
/-- .. C a class of the program -/
theorem e_isE {cls : Addr} {pos' : Pos} (b : InS X W S k N sc a c dd) (E : ErrC W S c x ps) (Nn : Nm X i n) (hi : g[i]? = some (.exc a dd c fs)) (G : Ng X "isinstance") (hm : W.mg "isinstance" = none) (Gy : Ng X y) (hy : W.mg y = some (.ref cls))
    (hk : PySem.W.kitOne W.K (.ref (S.cX c)) (.ref cls) = some bb) (hfn : fs ≠ [] := by exact fun z => nomatch z) : Fw.XE X S g (.Call (.Name "isinstance" p) [.Name n p2, .Name y pos] [] pos') (.bl bb) := by
  have mi := b.toKb.mg hm
  have my := b.toKb.mg hy
  obtain ⟨X0, oe, pn, rfl, hz, hv⟩ := b.ex
  have Kx : X0.K = W.K := congrArg Wd.K b.wd
  refine peI (pe_callB (call_isX (S := S) (c := c) (dd := dd) (by rw [Kx]; exact E.ec) hz hv) G.gl mi (by decide +kernel) (pa_cons (pe_var Nn.n Nn.vis Nn.dbg Nn.cdt) (pa_cons (pe_glob (v := .ref cls) Gy.gl my rfl Gy.dbg) pa_nil))) fun σ H Q ⟨B, M, st, kk⟩ => ?_
  obtain ⟨o, ho, e1, x⟩ := st.sl i _ hi
  obtain ⟨ws, hdd, r⟩ := x hfn
  exact ⟨.ref a, by rw [ho, e1], ⟨ws, hdd⟩, .ref cls, .ref cls, bb, rfl, fun u z => z, by rw [Kx]; exact hk, kk _ H (Same.refl H) (.bl _)⟩
/-- .. C a built-in class -/
theorem e_isEB {T : String} {pos' : Pos} (b : InS X W S k N sc a c dd) (E : ErrC W S c x ps) (Nn : Nm X i n) (hi : g[i]? = some (.exc a dd c fs)) (G : Ng X "isinstance") (hm : W.mg "isinstance" = none) (Gy : Ng X y) (hy : W.mg y = none) (hB : bootBuiltins y = some (.type T))
    (hk : PySem.W.kitOne W.K (.ref (S.cX c)) (.type T) = some bb) (hyn : y ≠ "__name__" := by decide) (hfn : fs ≠ [] := by exact fun z => nomatch z) : Fw.XE X S g (.Call (.Name "isinstance" p) [.Name n p2, .Name y pos] [] pos') (.bl bb) := by
  have mi := b.toKb.mg hm
  have my := b.toKb.mg hy
  obtain ⟨X0, oe, pn, rfl, hz, hv⟩ := b.ex
  have Kx : X0.K = W.K := congrArg Wd.K b.wd
  refine peI (pe_callB (call_isX (S := S) (c := c) (dd := dd) (by rw [Kx]; exact E.ec) hz hv) G.gl mi (by decide +kernel) (pa_cons (pe_var Nn.n Nn.vis Nn.dbg Nn.cdt) (pa_cons (pe_bltn (v := .ty T) Gy.gl my hB rfl hyn Gy.dbg) pa_nil))) fun σ H Q ⟨B, M, st, kk⟩ => ?_
  obtain ⟨o, ho, e1, x⟩ := st.sl i _ hi
  obtain ⟨ws, hdd, r⟩ := x hfn
  exact ⟨.ref a, by rw [ho, e1], ⟨ws, hdd⟩, .ty T, .type T, bb, rfl, fun u z => z, by rw [Kx]; exact hk, kk _ H (Same.refl H) (.bl _)⟩
end
end Fw

set_option Elab.async false
set_option linter.all false
set_option maxRecDepth 100000
set_option maxHeartbeats 4000000
namespace Fw
open PySem L2

/-! ### isinstance -/
/-- a datum's type -/
def tyD (S : Sg) : D → Value
  | .non => .type "NoneType"
  | .bl _ => .type "bool"
  | .int _ => .type "int"
  | .str _ => .type "str"
  | .tup _ => .type "tuple"
  | .lst _ => .type "list"
  | .pt _ _ _ => .ref S.cP
  | .obj c _ => .ref (S.cO c)
/-- what a class must say for isinstance of its instances -/
structure Isi (K : PySem.W.Frag) (C : Addr) : Prop where
  ca : PySem.W.findIn K (.ref C) "__class__" = some (some (.builtin "object.__class__"))
  cn : PySem.W.specialIn K (.builtin "object.__class__") "__get__" = some (some (.builtin "getset_descriptor.__get__"))
  ct : PySem.W.takesIn K (.builtin "object.__class__") = some true
  cm : PySem.W.mroIn K C (.type "object") = some true
structure PtC (W : Wd) (S : Sg) : Prop where
  gC : W.mg "Point" = some (.ref S.cP)
  scls : SlX.SCls W.K S.cP
  isi : SlX.SIsi W.K S.cP
  sx : ∃ p, SlX.Slot1 W.K S.cP "x" p S.iX
  sy : ∃ p, SlX.Slot1 W.K S.cP "y" p S.iY
  so : ∃ p, SlX.Slot1 W.K S.cP "over" p S.iO
  xy : S.iX ≠ S.iY
  xo : S.iX ≠ S.iO
  yo : S.iY ≠ S.iO
/-- the data of which isinstance is asked: which classes are sound -/
def isiOk (W : Wd) (S : Sg) : D → Prop
  | .pt _ _ _ => SlX.SCls W.K S.cP ∧ SlX.SIsi W.K S.cP
  | .obj c _ => Cls W.K (S.cO c) ∧ Isi W.K (S.cO c)
  | _ => True
def rIsiA (K : PySem.W.Frag) (u : Value) : List V → Hp → VK → Prop := fun xs H Q => rIsi K xs H Q ∨ SlX.rIsiSl K u xs H Q
section
variable {X : Cx} {W : Wd} {S : Sg} {U : WX} {k j : Nat} {g : En} {P : Po} {e : Expr} {es : List Expr} {d : D} {ds dd : List D} {x y : Str} {i n c : Nat} {pos p p2 : Pos} {bb : Bool} {cls : Addr}
theorem tyx_of {H : Hp} {M : List Addr} {v : V} (hK : W.K = S.K) (r : Rep S (hid M H) v d) (ok : isiOk W S d) (hp : ∀ x y o, d ≠ .pt x y o) : TyX W.K H v (tyD S d) := by
  cases r with
  | non => exact .base .non
  | bl b => exact .base (.bl b)
  | int i => exact .base (.int i)
  | str x => exact .base (.str x)
  | tup h r =>
    rcases h with (h | ⟨o, h⟩) | ⟨o, its, n, h1, h2, _⟩
    · exact .base (.tup (hid_some h).2)
    · exact .fTuple (hid_some h).2
    · exact .kTuple (by rw [hK]; exact h1) h2
  | lst h r =>
    rcases h with (h | ⟨o, h⟩) | ⟨o, its, n, h1, h2, _⟩
    · exact .base (.lst (hid_some h).2)
    · exact .base (.frz (hid_some h).2)
    · exact .kList (by rw [hK]; exact h1) h2
  | pt => exact absurd rfl (hp _ _ _)
  | obj h r => exact .base (.ins (hid_some h).2 ok.1 ok.2.ca ok.2.cn ok.2.ct ok.2.cm)
/-- isinstance(e, C), C a class of the program -/
theorem e_isi (C : Kb X W S) (he : Fw.XE X S g e d) (ok : isiOk W S d) (G : Ng X "isinstance") (hm : W.mg "isinstance" = none) (Gy : Ng X y) (hy : W.mg y = some (.ref cls)) (hk : PySem.W.kitOne W.K (tyD S d) (.ref cls) = some bb)
    (h1 : starEach [e, .Name y p2] X.env = (false, eval e X.env) :: starEach [.Name y p2] X.env := by rfl) : Fw.XE X S g (.Call (.Name "isinstance" p) [e, .Name y p2] [] pos) (.bl bb) := by
  have hK := C.K
  have mi := C.mg hm
  have my := C.mg hy
  obtain ⟨w1, w2, w3, w4⟩ := C
  subst w1
  refine peI (pe_callB (CallR.or call_isi (SlX.call_isiSl (.ref cls))) G.gl mi (by decide +kernel) (pa_cons he (pa_cons (pe_glob (v := .ref cls) Gy.gl my rfl Gy.dbg) pa_nil) h1) (he := h1) (hpl := by rfl)) fun σ H Q ⟨B, M, st, kk⟩ => ⟨B, M, st, fun v H1 e1 r => ?_⟩
  have fin := kk (.bl bb) H1 e1 (.bl bb)
  by_cases hp : ∃ x y o, d = .pt x y o
  · obtain ⟨x, y, o, rfl⟩ := hp
    cases r with
    | pt h hx hy' ho => exact .inr ⟨_, _, _, _, .ref cls, bb, rfl, rfl, fun w z => z, slt_mono hid_le h, ok.1, ok.2, hk, fin⟩
  · exact .inl ⟨v, .ref cls, tyD S d, .ref cls, bb, rfl, .own cls, tyx_of (W := wdOf X) hK r ok fun x y o z => hp ⟨x, y, o, z⟩, hk, fin⟩
/-- .. C a built-in class -/
theorem e_isiB {T : String} (C : Kb X W S) (he : Fw.XE X S g e d) (ok : isiOk W S d) (G : Ng X "isinstance") (hm : W.mg "isinstance" = none) (Gy : Ng X y) (hy : W.mg y = none) (hB : bootBuiltins y = some (.type T)) (hk : PySem.W.kitOne W.K (tyD S d) (.type T) = some bb) (hyn : y ≠ "__name__" := by decide)
    (h1 : starEach [e, .Name y p2] X.env = (false, eval e X.env) :: starEach [.Name y p2] X.env := by rfl) : Fw.XE X S g (.Call (.Name "isinstance" p) [e, .Name y p2] [] pos) (.bl bb) := by
  have hK := C.K
  have mi := C.mg hm
  have my := C.mg hy
  obtain ⟨w1, w2, w3, w4⟩ := C
  subst w1
  refine peI (pe_callB (CallR.or call_isi (SlX.call_isiSl (.type T))) G.gl mi (by decide +kernel) (pa_cons he (pa_cons (pe_bltn (v := .ty T) Gy.gl my hB rfl hyn Gy.dbg) pa_nil) h1) (he := h1) (hpl := by rfl)) fun σ H Q ⟨B, M, st, kk⟩ => ⟨B, M, st, fun v H1 e1 r => ?_⟩
  have fin := kk (.bl bb) H1 e1 (.bl bb)
  by_cases hp : ∃ x y o, d = .pt x y o
  · obtain ⟨x, y, o, rfl⟩ := hp
    cases r with
    | pt h hx hy' ho => exact .inr ⟨_, _, _, _, .ty T, bb, rfl, rfl, fun w z => z, slt_mono hid_le h, ok.1, ok.2, hk, fin⟩
  · exact .inl ⟨v, .ty T, tyD S d, .type T, bb, rfl, .ty T, tyx_of (W := wdOf X) hK r ok fun x y o z => hp ⟨x, y, o, z⟩, hk, fin⟩

/-! ### == of lists and tuples of plain data -/
mutual
def pdOf : D → PyData
  | .non => .none
  | .bl b => .bool b
  | .int i => .int i
  | .str x => .str x
  | .tup xs => .tuple (pdsOf xs)
  | .lst xs => .list (pdsOf xs)
  | .pt _ _ _ => .none
  | .obj _ _ => .none
def pdsOf : List D → List PyData
  | [] => []
  | d :: ds => pdOf d :: pdsOf ds
end
mutual
def flat : D → Bool
  | .pt _ _ _ => false
  | .obj _ _ => false
  | .tup xs => flats xs
  | .lst xs => flats xs
  | _ => true
def flats : List D → Bool
  | [] => true
  | d :: ds => flat d && flats ds
end
mutual
theorem dp_of {H : Hp} : ∀ {v : V} {d : D}, Rep S H v d → flat d = true → Dp S.K H v (pdOf d)
  | _, _, .non, _ => .non
  | _, _, .bl b, _ => .bl b
  | _, _, .int i, _ => .int i
  | _, _, .str x, _ => .str x
  | _, _, .tup h r, f => .tup h (dps_of r (by unfold flat at f; exact f))
  | _, _, .lst h r, f => .lst h (dps_of r (by unfold flat at f; exact f))
  | _, _, .pt _ _ _ _, f => by unfold flat at f; cases f
  | _, _, .obj _ _, f => by unfold flat at f; cases f
theorem dps_of {H : Hp} : ∀ {vs : List V} {ds : List D}, Reps S H vs ds → flats ds = true → DpAll S.K H vs (pdsOf ds)
  | _, _, .nil, _ => .nil
  | _, _, .cons h t, f => by
    unfold flats at f
    rw [Bool.and_eq_true] at f
    exact .cons (dp_of h f.1) (dps_of t f.2)
end
mutual
theorem dp_mono {K : PySem.W.Frag} {H H' : Hp} (e : Same H H') : ∀ {v : V} {d : PyData}, Dp K H v d → Dp K H' v d
  | _, _, .non => .non
  | _, _, .bl b => .bl b
  | _, _, .int i => .int i
  | _, _, .str x => .str x
  | _, _, .tup h r => .tup (Evl.ex_t e h) (dps_mono e r)
  | _, _, .lst h r => .lst (Evl.ex_l e h) (dps_mono e r)
theorem dps_mono {K : PySem.W.Frag} {H H' : Hp} (e : Same H H') : ∀ {vs : List V} {ds : List PyData}, DpAll K H vs ds → DpAll K H' vs ds
  | _, _, .nil => .nil
  | _, _, .cons h t => .cons (dp_mono e h) (dps_mono e t)
end
theorem c_eqD {d1 d2 : D} (C : Kb X W S) (hu : X.A.units + 64 < cLine) (f1 : flat d1 = true) (f2 : flat d2 = true) (s1 : SeqAt.shaped (pdOf d1) = true) (s2 : SeqAt.shaped (pdOf d2) = true) : BinD X S (compareOp .Eq) d1 d2 (.bl (PyData.eqv (pdOf d1) (pdOf d2))) := by
  intro pins s σ H v w u z Q I rx ry ⟨M, _, q, K⟩
  obtain ⟨x', y', e, q1, q2⟩ := q.two
  cases e
  have h1 := dp_mono hid_le (dp_of q1 f1)
  have h2 := dp_mono hid_le (dp_of q2 f2)
  rw [← C.kk] at h1 h2
  exact op_eqD hu pins s σ H _ _ u z Q I rx ry ⟨_, _, h1, h2, s1, s2, K _ H (Same.refl H) (.bl _)⟩
theorem c_neD {d1 d2 : D} (C : Kb X W S) (hu : X.A.units + 64 < cLine) (f1 : flat d1 = true) (f2 : flat d2 = true) (s1 : SeqAt.shaped (pdOf d1) = true) (s2 : SeqAt.shaped (pdOf d2) = true) : BinD X S (compareOp .NotEq) d1 d2 (.bl (!PyData.eqv (pdOf d1) (pdOf d2))) := by
  intro pins s σ H v w u z Q I rx ry ⟨M, _, q, K⟩
  obtain ⟨x', y', e, q1, q2⟩ := q.two
  cases e
  have h1 := dp_mono hid_le (dp_of q1 f1)
  have h2 := dp_mono hid_le (dp_of q2 f2)
  rw [← C.kk] at h1 h2
  exact op_neD hu pins s σ H _ _ u z Q I rx ry ⟨_, _, h1, h2, s1, s2, K _ H (Same.refl H) (.bl _)⟩
theorem Cc.hu (C : Cc X W S k) : X.A.units + 64 < cLine := C.room.units
theorem Hc.hu (C : Hc X W S k) : X.A.units + 64 < cLine := by
  have := C.roomH.un
  omega

/-! ### calls, loops while an exception is handled -/
structure FnHt (W : Wd) (S : Sg) (k : Nat) (x : Str) (n : Nat) (R : List D → Out → Prop) : Prop where
  ex : ∃ f fd ps, L2H.FnH W.P W.w W.K W.mg W.base (L2N.CX W.P W.w) k f fd ps (spOf S ps.length R) ∧ W.mg x = some (.ref f) ∧ PySem.W.keepIn W.K (.ref f) = true ∧ ps.length = n ∧ Binds W.K fd ps []
theorem passH {E : L2.St → XK} (h : ∀ σ, E σ = E0) : ∀ σ, PassesAt (L2N.CX X.prog X.w) X σ (E σ) := fun σ pins H s e s' I w => by
  rw [h σ] at w
  exact passN pins σ H s e s' I w
theorem e_callHt {R : List D → Out → Prop} (C : Hc X W S k) (F : FnHt W S j x n R) (G : Ng X x) (ha : XA X S g (e :: es) ds) (hR : R ds (.ok d)) (hn : ds.length = n := by rfl) (hj : j ≤ k := by decide)
    (he : starEach (e :: es) X.env = (false, eval e X.env) :: starEach es X.env := by rfl) (hpl : (backTo pos (starEach es X.env)).any (·.1) = false := by rfl) : Fw.XE X S g (.Call (.Name x p) (e :: es) [] pos) d := by
  obtain ⟨f, fd, ps, F, hm, hk, hl, hb⟩ := F.ex
  obtain ⟨⟨w1, w2, c3, c4⟩, c1, c2⟩ := C
  subst w1
  refine peI (L2H.pe_callH (E := fun _ => E0) F (c2.mono hj) c1 G.gl hm hk hb (passH fun _ => rfl) ha G.dbg he hpl) ?_
  intro σ H Q ⟨B, M, st, kk⟩
  exact ⟨B, M, st, fun vs H1 e1 r => ⟨by rw [r.length, hn, hl], M, ds, _, (st.mono e1).trk, r, hR, fun v H2 e2 r2 => kk v H2 (e1.trans e2) r2⟩⟩
/-- for over range, an exception being handled -/
theorem s_forH {tg e : Expr} {body : List Stmt} {jj : Int} (C : Hc X W S k) (G : Ng X "range") (hm : X.mg "range" = none) (ha : XA X S g [e] [.int jj]) (hj : -(2 ^ 62) ≤ jj ∧ jj < 2 ^ 62) (I : Nat → En → Prop) (h0 : I 0 g)
    (hs : ∀ i g1, i < jj.toNat → I i g1 → ∃ g2, XG X S g1 tg (.int (0 + i)) g2 ∧ XB X S U g2 body { P with nx := I (i + 1), ct := I (i + 1), bk := P.nx }) (hd : ∀ g1, I jj.toNat g1 → P.nx g1)
    (hs1 : starEach [e] X.env = [(false, eval e X.env)] := by rfl) : XS X S U g (.For tg (.Call (.Name "range" p) [e] [] p2) body [] pos) P := by
  have hi : L2H.PIH X tg (.Call (.Name "range" p) [e] [] p2) (fun t H R => ∃ B M, Stt S B M g t H ∧ ∀ J Gh H', Same H H' → Walks S J Gh jj.toNat (fun i => .int (0 + i)) → Gh (hid M H') → R J H') := by
    refine ⟨fun pins s σ H R I ⟨B, M, st, kk⟩ => (L2H.pi_range1H G.gl hm ha hs1).run pins s σ H R I ⟨B, M, st, fun vs H1 e1 r => ?_⟩⟩
    obtain ⟨x, e, q⟩ := r.one
    cases e
    cases q
    exact ⟨jj, rfl, hj.1, hj.2, kk _ _ H1 e1 walks_rng trivial⟩
  have hg : PG X tg (fun v t H Q => ∃ g1 d g2, XG X S g1 tg d g2 ∧ ∃ B M, Stt S B M g1 t H ∧ Rep S (hid M H) v d ∧ ∀ t', Stt S B M g2 t' H → Q t' H) := ⟨fun pins s σ H v u Q I r ⟨g1, d, g2, hx, w⟩ => hx.run pins s σ H v u Q I r w⟩
  have hb : PSs X body (fun E t H => ∃ g' P', XB X S U g' body P' ∧ ∃ B M, Stt S B M g' t H ∧ Ct S B U P' E ∧ Cx' S B U P') := ⟨fun pins s σ H E I ⟨g', P', hx, w⟩ => hx.run pins s σ H E I w⟩
  refine psI (L2H.ps_forH C.own C.hot hi hg hb (fun _ => rfl)) fun E σ H ⟨B, M, st, c, x⟩ => ⟨B, M, st, fun J Gh H' e1 wk hG => ?_⟩
  refine ⟨fun i m t H => m = jj.toNat - i ∧ i ≤ jj.toNat ∧ ∃ g1 M1, I i g1 ∧ Stt S (B.more Gh wk.mono) M1 g1 t H, ⟨jj.toNat, by simp, Nat.zero_le _, g, M, h0, (st.mono e1).more wk.mono hG⟩, ?_⟩
  rintro i m t H1 ⟨rfl, hin, g1, M1, hI, st1⟩
  by_cases hlt : i < jj.toNat
  · refine .inr ⟨wk.go M1 i H1 st1.gh.2 hlt, fun t2 H2 => ∃ g2 M2, I (i + 1) g2 ∧ Stt S (B.more Gh wk.mono) M2 g2 t2 H2, fun t2 H2 w => ⟨jj.toNat - (i + 1), by omega, rfl, hlt, w⟩, fun y H2 hy => ?_⟩
    obtain ⟨e2, r⟩ := wk.yld M1 i H1 y H2 st1.trk st1.gh.2 hlt hy
    obtain ⟨g2, hx, hB⟩ := hs i g1 hlt hI
    refine ⟨g1, _, g2, hx, _, M1, st1.mono e2, r, fun t' st' => ⟨g2, _, hB, _, M1, st', ⟨fun g3 M3 t3 H3 z q => ⟨g3, M3, z, q⟩, c.rt, fun g3 M3 t3 H3 z q => c.nx _ _ _ _ z q.less, fun g3 M3 t3 H3 z q => ⟨g3, M3, z, q⟩, c.rn⟩, fun c' fs dx ws g3 M3 t3 H3 z q => x c' fs dx ws g3 M3 t3 H3 z q.less⟩⟩
  · have e : i = jj.toNat := by omega
    subst e
    exact .inl ⟨wk.stop M1 _ H1 st1.gh.2 (Nat.le_refl _), c.nx _ _ _ _ (hd g1 hI) st1.less⟩
end
end Fw

set_option Elab.async false
set_option linter.all false
set_option maxRecDepth 100000
set_option maxHeartbeats 4000000
namespace Fw
open PySem L2

/-! ### defs that are found at a class -/
theorem takes0 {X : Cx} : L2N.Takes X (fun _ _ _ _ => False) := fun u s' h => by
  obtain ⟨_, _, _, _, _, _, _, _, _, _, _, _, _, _, _, _, z⟩ := h
  exact z.elim
/-- an expression with all that it may do -/
def XQ (X : Cx) (S : Sg) (U : WX) (g : En) (e : Expr) (o : Out) : Prop := PE X e fun t H Q => ∃ B M, Stt S B M g t H ∧ OutK S H M Q (fun c d H' => U c d t H') o
def spM (S : Sg) (n : Nat) (dd : List D) (R : List D → Out → Prop) : Sp := fun vs H Q E => ∃ M ds o, vs.length = n ∧ (∀ a ∈ M, H a ≠ none) ∧ Reps S (hid M H) vs ds ∧ R (ds ++ dd) o ∧ OutK S H M Q E o
structure FnM (W : Wd) (S : Sg) (k : Nat) (q : Addr) (n : Nat) (dd : List D) (R : List D → Out → Prop) : Prop where
  ex : ∃ fd ps, FnOk W.P W.w W.K W.mg W.base (L2N.CX W.P W.w) k q fd ps (spOf S ps.length R) ∧ ps.length = n + dd.length ∧ ∃ dvs us, Binds W.K fd ps us ∧ Vals dvs us ∧ ∀ H, Reps S H dvs dd
theorem FnM.fnr {W : Wd} {S : Sg} {k : Nat} {q : Addr} {n : Nat} {dd : List D} {R : List D → Out → Prop} (F : FnM W S k q n dd R) : FnR W.P W.w W.K W.mg W.base (L2N.CX W.P W.w) k q (spM S n dd R) := by
  obtain ⟨fd, ps, F, hl, dvs, us, hb, hv, hd⟩ := F.ex
  refine (F.raw hb hv).imp fun vs H Q E ⟨M, ds, o, hn, tr, r, hR, ho⟩ => ?_
  exact ⟨by rw [List.length_append, hn, (hd H).length, hl], M, _, o, tr, r.append (hd _), hR, ho⟩
section
variable {X : Cx} {W : Wd} {S : Sg} {U : WX} {k j : Nat} {g : En} {P : Po} {e a b : Expr} {es : List Expr} {d da db : D} {ds dd : List D} {x y f m : Str} {i n c : Nat} {pos p p2 apos : Pos} {q : Addr} {R : List D → Out → Prop} {o : Out}
theorem run_SR {sp : Sp} {pins : List (Addr × Obj)} {σ : L2.St} {H : Hp} {s : Shared} {Q : VK} {ws : List Value} {vs : List V} (U : WX) (F : FnR X.prog X.w X.K X.mg X.base (L2N.CX X.prog X.w) k q sp) (hr : Room k X.A) (tk : L2N.Takes X U)
    (I : Inv X pins σ H s) (r : Vals vs ws) (h : sp vs H Q (WE U σ)) : wpAny (model X.prog X.w) X.A (call (.ref q) ws) (EP X pins σ Q) X.xe s := by
  refine wpAny_call (codeAny_mono (F X.A X.stack s H ws vs Q (WE U σ) hr I.env0 r h) fun r s' w => ?_)
  cases r with
  | error e => exact L2N.passAt tk σ pins H s e s' I w
  | ok fl =>
    cases fl with
    | ret u => exact I.after w
    | next => exact w.elim
    | brk => exact w.elim
    | cont => exact w.elim
theorem run_MQ {pins : List (Addr × Obj)} {σ : L2.St} {H : Hp} {s : Shared} {Q : VK} {us : List Value} {vs : List V} {M : List Addr} (C : Cc X W S k) (tk : L2N.Takes X U) (F : FnM W S j q n dd R) (hj : j ≤ k) (I : Inv X pins σ H s) (r : Vals vs us)
    (tr : ∀ a ∈ M, H a ≠ none) (rr : Reps S (hid M H) vs ds) (hn : ds.length = n) (hR : R (ds ++ dd) o) (kk : OutK S H M Q (fun c d H' => U c d σ H') o) : wpAny (model X.prog X.w) X.A (call (.ref q) us) (EP X pins σ Q) X.xe s := by
  have F' := F.fnr
  obtain ⟨⟨w1, w2, c3, c4⟩, c1, c2⟩ := C
  subst w1
  exact run_SR U F' (c2.mono hj) tk I r ⟨M, ds, o, by rw [rr.length, hn], tr, rr, hR, kk⟩

/-! ### instances -/
def clD (S : Sg) : D → Option Addr
  | .pt _ _ _ => some S.cP
  | .obj c _ => some (S.cO c)
  | _ => none
theorem Kb.kw (C : Kb X W S) : X.K = W.K := congrArg Wd.K C.wd
theorem inst_at {pins : List (Addr × Obj)} {σ : L2.St} {H : Hp} {s : Shared} {M : List Addr} {v : V} {A : Addr} (I : Inv X pins σ H s) (r : Rep S (hid M H) v d) (h : clD S d = some A) : ∃ a ox od, v = .ref a ∧ PySem.W.InstAt s.heap a ox A (some od) := by
  cases r with
  | pt hs hx hy ho =>
    cases h
    obtain ⟨sl, od, _, J, _⟩ := SlX.slt_inst I (slt_mono hid_le hs)
    exact ⟨_, _, od, rfl, J⟩
  | obj hs r =>
    cases h
    obtain ⟨mA, O, _⟩ := ins_get I.hok (hid_some hs).2
    obtain ⟨od, J, _⟩ := O.look
    exact ⟨_, _, od, rfl, J⟩
  | _ => cases h
theorem typ_at {pins : List (Addr × Obj)} {σ : L2.St} {H : Hp} {s : Shared} {M : List Addr} {v : V} {u : Value} (C : Kb X W S) (I : Inv X pins σ H s) (r : Rep S (hid M H) v d) (ru : RelV v u) : PySem.W.Looks (model X.prog X.w) s.heap (typeOf u) (tyD S d) := by
  cases hd : clD S d with
  | some A =>
    obtain ⟨a, ox, od, rfl, J⟩ := inst_at I r hd
    cases ru
    have e : tyD S d = .ref A := by
      cases d <;> cases hd <;> rfl
    rw [e]
    exact J.type
  | none =>
    have ok : isiOk W S d := by
      cases d <;> first | trivial | cases hd
    have ty := tyx_of (W := W) C.K r ok (fun x y o z => by subst z; cases hd)
    rw [← C.kw] at ty
    obtain ⟨Pn, Z, hP, _⟩ := kit_of I ru ty
    exact Z.ty _ _ I.kIn hP
/-- e op e', e an own instance whose class has a def for op -/
theorem c_own {op : CmpOp} {A : Addr} (C : Cc X W S k) (F : FnM W S j q 2 [] R) (hd : clD S da = some A) (hs : PySem.W.findIn W.K (.ref A) (cmpInfo op).2.1 = some (some (.ref q))) (hf : PySem.W.isFn W.K (.ref q) = true) (hn : PySem.W.notFirst W.K A (tyD S db) = true)
    (hR : R [da, db] (.ok d)) (hj : j ≤ k := by decide) (hop : ∀ a b, compareOp op a b = richCompare op a b := by exact fun _ _ => rfl) : BinD X S (compareOp op) da db d := by
  intro pins s σ H x y v u Q I rx ry ⟨M, tr, r, K⟩
  obtain ⟨x', y', e, q1, q2⟩ := r.two
  cases e
  obtain ⟨a, ox, od, rfl, J⟩ := inst_at I q1 hd
  cases rx
  obtain ⟨m, hF⟩ := I.fr
  rw [hop]
  rw [← C.kw] at hs hf hn
  refine PySem.W.cmp_K (op := op) C.room.units0 hF I.ok.mod.kin J (typ_at C.toKb I q2 ry) hn hs hf ?_
  refine wpAny_mono (run_MQ (vs := [.ref a, y]) (us := [.ref a, u]) C takes0 F hj I (.cons rfl (.cons ry .nil)) tr (.cons q1 (.cons q2 .nil)) rfl hR (Q := Q) fun v H' e r => K v H' e r) (fun w s' z => ?_) fun _ _ x => x
  obtain ⟨z', H', I', rz, qz⟩ := z
  exact SlX.cmpback rz ⟨z', H', I', rz, qz⟩
end

/-! ### points -/
section
variable {X : Cx} {W : Wd} {S : Sg} {U : WX} {k j : Nat} {g : En} {P : Po} {e : Expr} {es : List Expr} {d : D} {ds dd : List D} {x y f m : Str} {i n c : Nat} {pos p p2 apos : Pos} {q : Addr} {R : List D → Out → Prop} {o : Out} {px py po : Int}
theorem e_slot {iF z : Nat} {o' : Int} (C : Kb X W S) (T : PtC W S) (he : Fw.XE X S g e (.pt px py po)) (h1 : ∃ p, SlX.Slot1 W.K S.cP f p iF) (h2 : ∀ H v, Rep S H v (.pt px py po) → ∃ a dx vs, v = .ref a ∧ SlX.Slt H a S.cP dx vs ∧ vs[iF]? = some (some (.int o')))
    (hb : attributeBase e f X.env (eval e X.env) = eval e X.env := by rfl) : Fw.XE X S g (.Attribute e f pos) (.int o') := by
  obtain ⟨p, h1⟩ := h1
  refine peI (SlX.pe_sl he hb) fun σ H Q ⟨B, M, st, kk⟩ => ⟨B, M, st, fun v H1 e1 r => ?_⟩
  obtain ⟨a, dx, vs, rfl, hs, hv⟩ := h2 _ _ r
  exact ⟨a, S.cP, dx, p, vs, iF, .int o', rfl, slt_mono hid_le hs, by rw [C.kw]; exact T.scls, by rw [C.kw]; exact h1, hv, kk _ H1 e1 (.int _)⟩
theorem e_px (C : Kb X W S) (T : PtC W S) (he : Fw.XE X S g e (.pt px py po)) (hb : attributeBase e "x" X.env (eval e X.env) = eval e X.env := by rfl) : Fw.XE X S g (.Attribute e "x" pos) (.int px) :=
  e_slot (z := 0) C T he T.sx (fun H v r => by cases r with | pt h hx hy ho => exact ⟨_, _, _, rfl, h, hx⟩) hb
theorem e_py (C : Kb X W S) (T : PtC W S) (he : Fw.XE X S g e (.pt px py po)) (hb : attributeBase e "y" X.env (eval e X.env) = eval e X.env := by rfl) : Fw.XE X S g (.Attribute e "y" pos) (.int py) :=
  e_slot (z := 0) C T he T.sy (fun H v r => by cases r with | pt h hx hy ho => exact ⟨_, _, _, rfl, h, hy⟩) hb
theorem e_po (C : Kb X W S) (T : PtC W S) (he : Fw.XE X S g e (.pt px py po)) (hb : attributeBase e "over" X.env (eval e X.env) = eval e X.env := by rfl) : Fw.XE X S g (.Attribute e "over" pos) (.int po) :=
  e_slot (z := 0) C T he T.so (fun H v r => by cases r with | pt h hx hy ho => exact ⟨_, _, _, rfl, h, ho⟩) hb
/-- a property of points -/
structure PropC (W : Wd) (S : Sg) (f : Str) (k : Nat) (R : List D → Out → Prop) : Prop where
  ex : ∃ p q, PySem.W.findIn W.K (.ref S.cP) f = some (some (.ref p)) ∧ PySem.W.specialIn W.K (.ref p) "__get__" = some (some (.builtin "property.__get__")) ∧ PySem.W.takesIn W.K (.ref p) = some true ∧ (∃ rest, PySem.W.recIn W.K p "property" = some (.ref q :: rest)) ∧ FnM W S k q 1 [] R
theorem e_prop (C : Cc X W S k) (T : PtC W S) (Pc : PropC W S f j R) (he : Fw.XE X S g e (.pt px py po)) (hR : R [.pt px py po] (.ok d)) (hj : j + 1 ≤ k := by decide) (hb : attributeBase e f X.env (eval e X.env) = eval e X.env := by rfl) : Fw.XE X S g (.Attribute e f pos) d := by
  obtain ⟨p, q, h1, h2, h3, h4, F⟩ := Pc.ex
  have F' := F.fnr
  obtain ⟨⟨w1, w2, w3, w4⟩, c1, c2⟩ := C
  subst w1
  refine peI (SlX.pe_propSl (E := E0) he T.scls h1 h2 h3 h4 F' (c2.mono hj) (fun H s e s' z => ?_) hb) fun σ H Q ⟨B, M, st, kk⟩ => ⟨B, M, st, fun v H1 e1 r => ?_⟩
  · obtain ⟨_, _, _, _, _, _, _, _, _, _, _, _, z⟩ := z
    exact z
  · cases r with
    | pt h hx hy ho =>
      exact ⟨_, _, _, rfl, slt_mono hid_le h, M, _, _, rfl, (st.mono e1).trk, .cons (.pt h hx hy ho) .nil, hR, fun v H2 e2 r2 => kk v H2 (e1.trans e2) r2⟩

/-! ### Point(x, y, over) -/
def spInit (S : Sg) (R : List D → Out → Prop) : Sp := fun vs H Q E => ∃ a dx ws ds o, vs = .ref a :: ws ∧ Reps S H ws ds ∧ dx ≠ a ∧ H a = some (.ins S.cP dx []) ∧ H dx = some (.own a) ∧ (∀ H', Reps S H' ws ds) ∧ R ds o ∧
  match o with
  | .ok (.pt x y v) => ∀ us H', Same (hid [a, dx] H) H' → SlX.Slt H' a S.cP dx us → us[S.iX]? = some (some (.int x)) → us[S.iY]? = some (some (.int y)) → us[S.iO]? = some (some (.int v)) → Q .non H'
  | .ok _ => False
  | .err c fs => ∀ M dd us H', Same (hid [a, dx] H) H' → Xd S (hid [a, dx] H) H' M fs dd us → E (.ref (S.cX c)) (dOf fs dd) H'
  | .new _ => False
/-- self.f = e -/
def Sl.quiet : Sl → Bool
  | .no => true
  | .v _ => true
  | _ => false
theorem s_slt {a dx : Addr} {vs : List (Option V)} {v : Int} {iF : Nat} {pos' : Pos} (C : Kb X W S) (T : PtC W S) (N : Nm X i x) (hi : g[i]? = some (.pi a dx vs)) (he : Fw.XE X S g e (.int v)) (h1 : ∃ p, SlX.Slot1 W.K S.cP f p iF) (hq : ∀ j s, j ≠ i → g[j]? = some s → s.quiet = true)
    (h : P.nx (g.set i (.pi a dx (SlX.putS iF (.int v) vs)))) (hs : swapsWith e (some (.Attribute (.Name x p) f pos')) pos.line X.env = pure false := by rfl) : XS X S U g (.Assign [.Attribute (.Name x p) f pos'] e pos) P := by
  obtain ⟨p, h1⟩ := h1
  refine psI (SlX.ps_sl (pe_var N.n N.vis N.dbg N.cdt) he hs) fun E σ H ⟨B, M, st, c, _⟩ => ⟨B, M, st, fun y H1 e1 r => ?_⟩
  cases r
  obtain ⟨o, ho, e2, ma, md, z0, z1, ne, hsl, hd⟩ := st.sl i _ hi
  refine ⟨.ref a, by rw [ho, e2], a, S.cP, dx, p, vs, iF, rfl, slt_mono e1 hsl, by rw [C.kw]; exact T.scls, by rw [C.kw]; exact h1, ?_⟩
  have st1 := st.mono e1
  have hh : hid M (SlX.slH H1 a S.cP dx (SlX.putS iF (.int v) vs)) = hid M H1 := by
    unfold SlX.slH
    rw [hid_upd ma, hid_upd md]
  refine c.nx _ M _ _ h ⟨fun b u hb => ?_, st.sub, st.new, fun b hb => ?_, fun n s hn => ?_, by rw [hh]; exact st1.gh, fun n l s u _ hnl q1 q2 m1 m2 _ _ => ?_⟩
  · rw [SlX.slH_ne (ne_of_none hb z0) (ne_of_none hb z1)]
    exact st1.same _ _ hb
  · by_cases b1 : b = a
    · rw [b1]; unfold SlX.slH; rw [upd_same]; exact fun z => nomatch z
    · by_cases b2 : b = dx
      · rw [b2]; unfold SlX.slH; rw [upd_ne ne, upd_same]; exact fun z => nomatch z
      · rw [SlX.slH_ne b1 b2]; exact st1.trk b hb
  · by_cases q : i = n
    · subst q
      obtain ⟨q, _⟩ := set_get hn
      subst q
      exact ⟨o, ho, e2, ma, md, z0, z1, ne, SlX.slH_slt ne, .inr (by unfold SlX.slH; rw [upd_ne ne, upd_same])⟩
    · rw [List.getElem?_set_ne q] at hn
      have qs := hq n s (Ne.symm q) hn
      obtain ⟨w, hw, r⟩ := st1.sl n s hn
      refine ⟨w, hw, ?_⟩
      cases s with
      | no => exact True.intro
      | v d =>
        obtain ⟨y, e3, r3⟩ := r
        exact ⟨y, e3, by rw [hh]; exact r3⟩
      | _ => cases qs
  · have noMine : ∀ {n : Nat} {s : Sl}, n ≠ i → (g.set i (.pi a dx (SlX.putS iF (.int v) vs)))[n]? = some s → s.mine = true → False := fun {n s} q1 q2 q3 => by
      rw [List.getElem?_set_ne (Ne.symm q1)] at q2
      have := hq n s q1 q2
      cases s <;> first | (cases q3; done) | (cases this; done)
    by_cases q : n = i
    · exact noMine (fun z => hnl (q.trans z.symm)) q2 m2
    · exact noMine q q1 m1
end
end Fw

set_option Elab.async false
set_option linter.all false
set_option maxRecDepth 100000
set_option maxHeartbeats 4000000
namespace Fw
open PySem L2

/-! ### bodies whose first name is their own object -/
theorem enOf_quiet {n i : Nat} {ds : List D} {s : Sl} (h : (enOf n ds)[i]? = some s) : s.quiet = true := by
  have hm : s ∈ enOf n ds := List.mem_of_getElem? h
  unfold enOf at hm
  rcases List.mem_append.mp hm with z | z
  · obtain ⟨d, _, rfl⟩ := List.mem_map.mp z
    rfl
  · rw [(List.mem_replicate.mp z).2]
    rfl
theorem RS.other {S : Sg} {B B' : Bs} {M : List Addr} {H : Hp} {s : Sl} {o : Option V} (q : s.quiet = true) (r : RS S B M H s o) : RS S B' M H s o := by
  cases s <;> first | exact r | cases q
theorem start_cons {N : List Str} {v : V} {ws : List V} : L2.start N (v :: ws) = some v :: L2.start N.tail ws := by
  unfold L2.start
  rw [List.map_cons, List.cons_append, List.length_cons, List.length_tail]
  congr 3
  omega
theorem stt_start1 {S : Sg} {B : Bs} {M : List Addr} {H : Hp} {N : List Str} {v : V} {ws : List V} {ds : List D} {s0 : Sl} (same : Same B.H0 H) (sub : ∀ a ∈ B.M0, a ∈ M) (new : ∀ a ∈ M, a ∈ B.M0 ∨ B.H0 a = none) (trk : ∀ a ∈ M, H a ≠ none) (gh : B.G (hid M H))
    (r0 : RS S B M H s0 (some v)) (r : Reps S (hid M H) ws ds) : Stt S B M (s0 :: enOf N.tail.length ds) (L2.start N (v :: ws)) H := by
  have S1 := stt_start (N := N.tail) trk r
  refine ⟨same, sub, new, trk, fun i s hi => ?_, gh, fun i l s u y hil h1 h2 m1 m2 _ _ => ?_⟩
  · rw [start_cons]
    cases i with
    | zero =>
      cases hi
      exact ⟨_, rfl, r0⟩
    | succ i =>
      obtain ⟨o, ho, rr⟩ := S1.sl i s hi
      exact ⟨o, ho, rr.other (enOf_quiet hi)⟩
  · have no : ∀ {n : Nat} {s : Sl}, (enOf N.tail.length ds)[n]? = some s → s.mine = true → False := fun {n s} q1 q2 => by
      have q := enOf_quiet q1
      cases s <;> first | (cases q2; done) | (cases q; done)
    cases i with
    | zero =>
      cases l with
      | zero => exact hil rfl
      | succ l => exact no h2 m2
    | succ i => exact no h1 m1
/-- the promise of Point.__init__ -/
def InitK (S : Sg) (H : Hp) (a dx : Addr) (Q : VK) (E : XK) : Out → Prop
  | .ok (.pt x y v) => ∀ us H', Same (hid [a, dx] H) H' → SlX.Slt H' a S.cP dx us → us[S.iX]? = some (some (.int x)) → us[S.iY]? = some (some (.int y)) → us[S.iO]? = some (some (.int v)) → Q .non H'
  | .ok _ => False
  | .err c fs => ∀ M dd us H', Same (hid [a, dx] H) H' → Xd S (hid [a, dx] H) H' M fs dd us → E (.ref (S.cX c)) (dOf fs dd) H'
  | .new _ => False
def spPt (S : Sg) (R : Int → Int → Int → Out → Prop) : Sp := fun vs H Q E => ∃ a dx x y v o, vs = [.ref a, .int x, .int y, .int v] ∧ dx ≠ a ∧ H a = some (.ins S.cP dx []) ∧ H dx = some (.own a) ∧ R x y v o ∧ InitK S H a dx Q E o
def poPt (S : Sg) (a dx : Addr) : Out → Po
  | .ok (.pt x y v) => { nx := fun g => ∃ us, g[0]? = some (.pi a dx us) ∧ us[S.iX]? = some (some (.int x)) ∧ us[S.iY]? = some (some (.int y)) ∧ us[S.iO]? = some (some (.int v)), rt := fun _ => False }
  | .ok _ => { nx := fun _ => False, rt := fun _ => False }
  | .err c fs => { nx := fun _ => False, rt := fun _ => False, ex := fun c' fs' _ => c' = c ∧ fs' = fs }
  | .new _ => { nx := fun _ => False, rt := fun _ => False }
theorem pt_init {W : Wd} {S : Sg} {x qual : Str} {st : Stmt} {f : Addr} {fd : FuncData} {N ps : List Str} {k : Nat} {R : Int → Int → Int → Out → Prop} {dvs : List V} (F : Fd W.K x qual st dvs f fd) (hK : W.K = S.K) (sc : FnScope N ps (defScope st)) (hps : ps.length = 4)
    (body : ∀ (X : Cx) (U : WX) (a dx : Addr) (p q v : Int) (o : Out), InB X W S k N (defScope st) U → R p q v o → XB X S U (.pi a dx [] :: enOf N.tail.length [.int p, .int q, .int v]) (defBody st) (poPt S a dx o)) :
    FnOk W.P W.w W.K W.mg W.base (L2N.CX W.P W.w) (k + 1) f fd ps (spPt S R) := by
  obtain ⟨oc, od, dV, kV, doc, pm, an, cdv, ct, osl, rfl, lk, hcd, _, _⟩ := F.ex
  refine fn_of lk hcd sc (fun vs H Q E ⟨_, _, _, _, _, _, e, _⟩ => by rw [e, hps]; rfl) (fun A outer s H vs Q E hr h => ?_)
  obtain ⟨a, dx, p, q, v, o, rfl, ne, ha, hd, hR, ho⟩ := h
  refine ⟨_, body _ (fun cls d _ H => E cls d H) a dx p q v o ⟨⟨⟨rfl, hK, passes_of rfl, sc.nd⟩, rfl, rfl, fun _ => rfl⟩, ⟨⟨rfl, hK, passes_of rfl, sc.nd⟩, rfl, hr⟩, L2N.takes_of rfl rfl rfl rfl, rfl, rfl⟩ hR, ?_⟩
  have ha0 : hid [a, dx] H a = none := by unfold hid; rw [if_pos List.mem_cons_self]
  have hd0 : hid [a, dx] H dx = none := by unfold hid; rw [if_pos (List.mem_cons_of_mem _ List.mem_cons_self)]
  refine ⟨⟨hid [a, dx] H, [], fun _ => True, fun _ _ _ _ => trivial⟩, [a, dx], stt_start1 hid_le (fun _ z => nomatch z) (fun b hb => .inr ?_) (fun b hb => ?_) trivial ⟨rfl, List.mem_cons_self, List.mem_cons_of_mem _ List.mem_cons_self, ha0, hd0, ne, .inl ⟨ha, rfl⟩, .inl hd⟩ (.cons (.int _) (.cons (.int _) (.cons (.int _) .nil))), ?_, ?_⟩
  · show hid [a, dx] H b = none
    unfold hid; rw [if_pos hb]
  · rcases List.mem_cons.mp hb with z | z
    · rw [z, ha]; exact fun z => nomatch z
    · rw [List.mem_singleton.mp z, hd]; exact fun z => nomatch z
  · have nn : ∀ z : False, (poPt S a dx o).rt = (poPt S a dx o).rt := fun z => z.elim
    cases o with
    | ok d =>
      cases d with
      | pt x y w =>
        refine ⟨fun g M t H' ⟨us, h0, h1, h2, h3⟩ st => ?_, fun _ _ _ z => z.elim, fun _ _ _ _ z => z.elim, fun _ _ _ _ z => z.elim, fun _ _ _ z => z.elim⟩
        obtain ⟨_, _, _, _, _, _, _, _, hs, _⟩ := st.sl 0 _ h0
        exact ho us H' st.same hs h1 h2 h3
      | _ => exact ho.elim
    | new d => exact ho.elim
    | err c fs => exact ⟨fun _ _ _ _ z => z.elim, fun _ _ _ z => z.elim, fun _ _ _ _ z => z.elim, fun _ _ _ _ z => z.elim, fun _ _ _ z => z.elim⟩
  · intro c fs dd ws g M t H' hx st xd
    cases o with
    | ok d => cases d <;> exact hx.elim
    | new d => exact hx.elim
    | err c' fs' =>
      obtain ⟨rfl, rfl⟩ := hx
      exact ho M dd ws H' st.same xd
def isInt : D → Bool
  | .int _ => true
  | _ => false
def outP : Out → Bool
  | .ok (.pt _ _ _) => true
  | .ok _ => false
  | .err _ fs => fs.all fun q => isInt q.2
  | .new _ => false
theorem RepF.ints {S : Sg} {H H' : Hp} : ∀ {ws : List (Str × V)} {fs : List (Str × D)}, (fs.all fun q => isInt q.2) = true → RepF S H ws fs → RepF S H' ws fs
  | [], [], _, _ => .nil
  | [], _ :: _, _, r => by cases r
  | _ :: _, [], _, r => by cases r
  | (f, v) :: ws, (f', d) :: fs, h, r => by
    rw [List.all_cons, Bool.and_eq_true] at h
    cases r with
    | cons r t =>
      refine .cons ?_ (RepF.ints h.2 t)
      cases d <;> first | (cases r; exact .int _) | (exact absurd h.1 Bool.false_ne_true)
/-- the class of points, as it is called -/
structure PtI (W : Wd) (S : Sg) (k n : Nat) (dd : List D) (R : Int → Int → Int → Out → Prop) : Prop where
  gC : W.mg "Point" = some (.ref S.cP)
  ex : ∃ f fd ps, Mk W.K S.cP f ∧ FnOk W.P W.w W.K W.mg W.base (L2N.CX W.P W.w) k f fd ps (spPt S R) ∧ ps.length = 4 ∧ ∃ dvs us, Binds W.K fd ps us ∧ Vals dvs us ∧ ∀ H, Reps S H dvs dd
section
variable {X : Cx} {W : Wd} {S : Sg} {U : WX} {k j : Nat} {g : En} {P : Po} {e : Expr} {es : List Expr} {d : D} {ds dd : List D} {x y f m : Str} {i n c : Nat} {pos p p2 apos : Pos} {q : Addr} {R : Int → Int → Int → Out → Prop} {o : Out} {px py po : Int}
theorem made_run {f C : Addr} {fd : FuncData} {ps : List Str} {sp : Sp} {dvs : List V} {us0 : List Value} {pins : List (Addr × Obj)} {σ : L2.St} {H : Hp} {s : Shared} {Q : VK} {us : List Value} {vs : List V} (M : Mk X.K C f) (F : FnOk X.prog X.w X.K X.mg X.base (L2N.CX X.prog X.w) k f fd ps sp)
    (hr : Room (k + 1) X.A) (hb : Binds X.K fd ps us0) (hd : Vals dvs us0) (tk : L2N.Takes X U) (I : Inv X pins σ H s) (r : Vals vs us)
    (h : ∀ x dx, H x = none → H dx = none → dx ≠ x → sp (.ref x :: (vs ++ dvs)) (upd (upd H dx (.own x)) x (.ins C dx [])) (fun v H2 => v = .non ∧ Q (.ref x) H2) (WE U σ)) : wpAny (model X.prog X.w) X.A (call (.ref C) us) (EP X pins σ Q) X.xe s := by
  obtain ⟨z, hz⟩ : ∃ z, z = s.heap.objs.size := ⟨_, rfl⟩
  have hq := h (z + 1) z (by rw [hz]; exact I.hok.fresh (Nat.le_succ _)) (by rw [hz]; exact I.hok.fresh (Nat.le_refl _)) (Nat.ne_of_lt (Nat.lt_succ_self _))
  subst hz
  have J := Inv.made (C := C) I
  have r2 : Vals (V.ref (s.heap.objs.size + 1) :: (vs ++ dvs)) (Value.ref (s.heap.objs.size + 1) :: (us ++ us0)) := .cons rfl (r.append hd)
  have hl : (Value.ref (s.heap.objs.size + 1) :: us ++ us0).length = ps.length := by
    rw [← F.len _ _ _ _ hq]; exact r2.length.symm
  have run := F.run _ X.stack _ _ ⟨Value.ref (s.heap.objs.size + 1) :: us, []⟩ _ _ _ (WE U σ) (hr.make C us []) (J.env0.make C us []) (hb _ (Value.ref (s.heap.objs.size + 1) :: us) J.kIn hl) r2 hq
  refine wpAny_call (make_map (f := f) I.kIn M.makes M.init (beq_iff_eq.mp M.fn) (codeAny_mono run fun w s' q => ?_))
  cases w with
  | error e => exact L2N.passAt tk σ pins _ _ e s' J q
  | ok fl =>
    cases fl with
    | ret u =>
      obtain ⟨v, H', J3, rv, ev, q3⟩ := J.after q
      subst ev
      exact ⟨rv, .ref (s.heap.objs.size + 1), H', J3, rfl, q3⟩
    | next => exact q.elim
    | brk => exact q.elim
    | cont => exact q.elim
theorem Reps.three {H : Hp} {vs : List V} (r : Reps S H vs [.int px, .int py, .int po]) : vs = [.int px, .int py, .int po] := by
  cases r with
  | cons h t =>
    obtain ⟨y, z, rfl, q1, q2⟩ := t.two
    cases h
    cases q1
    cases q2
    rfl
theorem q_pt (C : Cc X W S k) (tk : L2N.Takes X U) (F : PtI W S j n dd R) (G : Ng X "Point") (ha : XA X S g (e :: es) ds) (hd : ds ++ dd = [.int px, .int py, .int po]) (hR : R px py po o) (hO : outP o = true := by rfl) (hj : j + 1 ≤ k := by decide)
    (he : starEach (e :: es) X.env = (false, eval e X.env) :: starEach es X.env := by rfl) (hpl : (backTo pos (starEach es X.env)).any (·.1) = false := by rfl) : XQ X S U g (.Call (.Name "Point" p) (e :: es) [] pos) o := by
  obtain ⟨f, fd, ps, mk, F1, hl, dvs, us, hb, hv, hdd⟩ := F.ex
  have gC := F.gC
  obtain ⟨⟨w1, w2, c3, c4⟩, c1, c2⟩ := C
  subst w1
  refine ⟨fun pins s σ H Q I w => ?_⟩
  obtain ⟨B, M, st, kk⟩ := w
  refine wpAny_Call_Name_kw (ld_glob I G.gl gC ?_ G.dbg)
  refine PySem.W.callWith_K (h₀ := X.base) I.ok.mod.kin mk.kp (wpAny_mono (ha.run pos pins s σ H (fun vs H1 => Same H H1 ∧ Reps S (hid M H1) vs ds) I ⟨B, M, st, fun vs H1 e1 r => ⟨e1, r⟩⟩) (fun ws s1 w => ?_) fun _ _ z => z) he hpl
  obtain ⟨vs, H1, I1, r1, e1, rr⟩ := w
  have r3 := rr.append (hdd (hid M H1))
  rw [hd] at r3
  refine ⟨I1.kIn, made_run mk F1 (c2.mono hj) hb hv tk I1 r1 fun a dx ha hdx ne => ⟨a, dx, px, py, po, o, by rw [r3.three], ne, upd_same, by rw [upd_ne ne]; exact upd_same, hR, ?_⟩⟩
  have st1 := st.mono e1
  have hs : Same H1 (hid [a, dx] (upd (upd H1 dx (.own a)) a (.ins S.cP dx []))) := fun b u hb => by
    have n1 := ne_of_none hb ha
    have n2 := ne_of_none hb hdx
    refine hid_of (fun z => ?_) (by rw [upd_ne n1, upd_ne n2]; exact hb)
    rcases List.mem_cons.mp z with z | z
    · exact n1 z
    · exact n2 (List.mem_singleton.mp z)
  cases o with
  | ok d =>
    cases d with
    | pt x y v =>
      intro us2 H2 e2 sl h1 h2 h3
      refine ⟨rfl, kk _ H2 (e1.trans (hs.trans e2)) (.pt (dx := dx) ?_ h1 h2 h3)⟩
      rcases sl with ⟨s1, s2⟩ | ⟨s1, s2⟩
      · exact .inl ⟨hid_of (st1.nm ha) s1, s2⟩
      · exact .inr ⟨hid_of (st1.nm ha) s1, hid_of (st1.nm hdx) s2⟩
    | _ => cases hO
  | new d => cases hO
  | err c fs =>
    intro M' dd' us2 H2 e2 xd
    refine kk dd' us2 H2 (e1.trans (hs.trans e2)) (fun hq => ?_)
    obtain ⟨hn, hw, rf⟩ := xd hq
    refine ⟨?_, hw, rf.ints hO⟩
    exact e1.free (hs.free hn)
/-- Point(..) -/
theorem e_pt (C : Cc X W S k) (F : PtI W S j n dd R) (G : Ng X "Point") (ha : XA X S g (e :: es) ds) (hd : ds ++ dd = [.int px, .int py, .int po]) (hR : R px py po (.ok d)) (hO : outP (.ok d) = true := by rfl) (hj : j + 1 ≤ k := by decide)
    (he : starEach (e :: es) X.env = (false, eval e X.env) :: starEach es X.env := by rfl) (hpl : (backTo pos (starEach es X.env)).any (·.1) = false := by rfl) : Fw.XE X S g (.Call (.Name "Point" p) (e :: es) [] pos) d :=
  q_pt C takes0 F G ha hd hR hO hj he hpl
theorem r_pt {fs : List (Str × D)} (C : Cc X W S k) (tk : L2N.Takes X U) (F : PtI W S j n dd R) (G : Ng X "Point") (ha : XA X S g (e :: es) ds) (hd : ds ++ dd = [.int px, .int py, .int po]) (hR : R px py po (.err c fs)) (hO : outP (.err c fs) = true := by rfl) (hj : j + 1 ≤ k := by decide)
    (he : starEach (e :: es) X.env = (false, eval e X.env) :: starEach es X.env := by rfl) (hpl : (backTo pos (starEach es X.env)).any (·.1) = false := by rfl) : XR X S U g (.Call (.Name "Point" p) (e :: es) [] pos) c fs :=
  q_pt C tk F G ha hd hR hO hj he hpl
end
end Fw

set_option Elab.async false
set_option linter.all false
set_option maxRecDepth 100000
set_option maxHeartbeats 4000000
namespace Fw
open PySem L2

/-! ### the __init__ of errors -/
section
variable {W : Wd} {S : Sg} {qual : Str} {st : Stmt} {f : Addr} {fd : FuncData} {C : Addr} {x y : Str} {p1 p2 p3 p4 q1 q2 q3 q4 : Pos}
theorem nm_of {X : Cx} {N : List Str} {sc : Scope} {i : Nat} {x : Str} (hN : X.N = N) (hs : X.env.scope = sc) (h : N[i]? = some x) (hv : sc.names.lookup x = some .local ∨ sc.names.lookup x = some .cell) (h1 : (x == ("__debug__" : Str)) = false) (h2 : (x == ("__classdict__" : Str)) = false) : Nm X i x :=
  ⟨by rw [hN]; exact h, by unfold Vis; rw [hs]; exact hv.elim .inl fun z => .inr (.inl z), h1, h2⟩
theorem err_body1 {X : Cx} (n0 : Nm X 0 "self") (n1 : Nm X 1 x) (ox : OexC X.K C) (nf : PySem.W.findIn X.K (.ref C) x = some none) {a : Addr} {u : V} :
    PSs X [.Assign [.Attribute (.Name "self" p1) x p2] (.Name x p3) p4] (fun E t H => t[1]? = some (some u) ∧ t[0]? = some (some (.ref a)) ∧ H a = some (exo a C none) ∧ ∀ d, H d = none → d ≠ a → E.nx t (upd (upd H d (exd d [(x, u)])) a (exo a C (some d)))) := by
  refine psbI (pss_cons (ps_ost (pe_var n0.n n0.vis n0.dbg n0.cdt) (pe_var n1.n n1.vis n1.dbg n1.cdt) (hs := by rfl)) pss_nil) fun E t H ⟨t1, t0, ha, K⟩ => ?_
  exact ⟨u, t1, .ref a, t0, a, C, rfl, ox, nf, .inl ⟨ha, fun dx hd hn => K dx hd hn⟩⟩
theorem err_body2 {X : Cx} (n0 : Nm X 0 "self") (n1 : Nm X 1 x) (n2 : Nm X 2 y) (ox : OexC X.K C) (nf : PySem.W.findIn X.K (.ref C) x = some none) (ng : PySem.W.findIn X.K (.ref C) y = some none) {a : Addr} {u z : V} :
    PSs X [.Assign [.Attribute (.Name "self" p1) x p2] (.Name x p3) p4, .Assign [.Attribute (.Name "self" q1) y q2] (.Name y q3) q4]
      (fun E t H => t[1]? = some (some u) ∧ t[2]? = some (some z) ∧ t[0]? = some (some (.ref a)) ∧ H a = some (exo a C none) ∧ ∀ d, H d = none → d ≠ a → E.nx t (upd (upd H d (exd d [(y, z), (x, u)])) a (exo a C (some d)))) := by
  refine psbI (pss_cons (ps_ost (pe_var n0.n n0.vis n0.dbg n0.cdt) (pe_var n1.n n1.vis n1.dbg n1.cdt) (hs := by rfl))
    (pss_cons (ps_ost (pe_var n0.n n0.vis n0.dbg n0.cdt) (pe_var n2.n n2.vis n2.dbg n2.cdt) (hs := by rfl)) pss_nil)) fun E t H ⟨t1, t2, t0, ha, K⟩ => ?_
  refine ⟨u, t1, .ref a, t0, a, C, rfl, ox, nf, .inl ⟨ha, fun dx hd hn => ⟨z, t2, .ref a, t0, a, C, rfl, ox, ng, .inr ⟨dx, [(x, u)], upd_same, by rw [upd_ne hn]; exact upd_same, Nat.le_of_ble_eq_true rfl, ?_⟩⟩⟩⟩
  have e : upd (upd (upd H dx (exd dx [(x, u)])) a (exo a C (some dx))) dx (exd dx ((y, z) :: [(x, u)])) = upd (upd H dx (exd dx [(y, z), (x, u)])) a (exo a C (some dx)) := by
    funext b
    by_cases b1 : b = dx
    · rw [b1, upd_same, upd_ne hn, upd_same]
    · by_cases b2 : b = a
      · rw [b2, upd_ne (Ne.symm hn), upd_same, upd_same]
      · rw [upd_ne b1, upd_ne b2, upd_ne b1, upd_ne b2, upd_ne b1]
  show E.nx t (upd (upd (upd H dx (exd dx [(x, u)])) a (exo a C (some dx))) dx (exd dx ((y, z) :: [(x, u)])))
  rw [e]
  exact K dx hd hn
theorem err_init1 {dvs : List V} (F : Fd W.K "__init__" qual st dvs f fd) (sc : FnScope ["self", x] ["self", x] (defScope st)) (hb : defBody st = [.Assign [.Attribute (.Name "self" p1) x p2] (.Name x p3) p4]) (ox : OexC W.K C) (nf : PySem.W.findIn W.K (.ref C) x = some none)
    (v0 : (defScope st).names.lookup ("self" : Str) = some .local ∨ (defScope st).names.lookup ("self" : Str) = some .cell) (v1 : (defScope st).names.lookup x = some .local ∨ (defScope st).names.lookup x = some .cell) (h1 : (x == ("__debug__" : Str)) = false) (h2 : (x == ("__classdict__" : Str)) = false) :
    FnOk W.P W.w W.K W.mg W.base (L2N.CX W.P W.w) 1 f fd ["self", x] (errSp C [x]) := by
  obtain ⟨oc, od, dV, kV, doc, pm, an, cdv, ct, osl, rfl, lk, hcd, _, _⟩ := F.ex
  refine fn_of lk hcd sc (fun vs H Q E ⟨a, us, e, hl, _⟩ => by rw [e, List.length_cons, hl]; rfl) (fun A outer s H vs Q E hr h => ?_)
  obtain ⟨a, us, rfl, hl, ha, K⟩ := h
  obtain ⟨u, rfl⟩ : ∃ u, us = [u] := by
    cases us with
    | nil => cases hl
    | cons u r => cases r with
      | nil => exact ⟨u, rfl⟩
      | cons _ _ => cases hl
  refine ⟨fun E t H => t[1]? = some (some u) ∧ t[0]? = some (some (.ref a)) ∧ H a = some (exo a C none) ∧ ∀ d, H d = none → d ≠ a → E.nx t (upd (upd H d (exd d [(x, u)])) a (exo a C (some d))), ?_, ?_⟩
  · rw [hb]
    exact err_body1 (nm_of rfl rfl rfl v0 (by decide) (by decide)) (nm_of rfl rfl rfl v1 h1 h2) ox nf
  · exact ⟨rfl, rfl, ha, fun d hd hn => K d hd hn⟩
theorem err_init2 {dvs : List V} (F : Fd W.K "__init__" qual st dvs f fd) (sc : FnScope ["self", x, y] ["self", x, y] (defScope st)) (hb : defBody st = [.Assign [.Attribute (.Name "self" p1) x p2] (.Name x p3) p4, .Assign [.Attribute (.Name "self" q1) y q2] (.Name y q3) q4]) (ox : OexC W.K C)
    (nf : PySem.W.findIn W.K (.ref C) x = some none) (ng : PySem.W.findIn W.K (.ref C) y = some none)
    (v0 : (defScope st).names.lookup ("self" : Str) = some .local ∨ (defScope st).names.lookup ("self" : Str) = some .cell) (v1 : (defScope st).names.lookup x = some .local ∨ (defScope st).names.lookup x = some .cell) (v2 : (defScope st).names.lookup y = some .local ∨ (defScope st).names.lookup y = some .cell)
    (h1 : (x == ("__debug__" : Str)) = false) (h2 : (x == ("__classdict__" : Str)) = false) (h3 : (y == ("__debug__" : Str)) = false) (h4 : (y == ("__classdict__" : Str)) = false) :
    FnOk W.P W.w W.K W.mg W.base (L2N.CX W.P W.w) 1 f fd ["self", x, y] (errSp C [x, y]) := by
  obtain ⟨oc, od, dV, kV, doc, pm, an, cdv, ct, osl, rfl, lk, hcd, _, _⟩ := F.ex
  refine fn_of lk hcd sc (fun vs H Q E ⟨a, us, e, hl, _⟩ => by rw [e, List.length_cons, hl]; rfl) (fun A outer s H vs Q E hr h => ?_)
  obtain ⟨a, us, rfl, hl, ha, K⟩ := h
  obtain ⟨u, z, rfl⟩ : ∃ u z, us = [u, z] := by
    cases us with
    | nil => cases hl
    | cons u r => cases r with
      | nil => cases hl
      | cons z r => cases r with
        | nil => exact ⟨u, z, rfl⟩
        | cons _ _ => cases hl
  refine ⟨fun E t H => t[1]? = some (some u) ∧ t[2]? = some (some z) ∧ t[0]? = some (some (.ref a)) ∧ H a = some (exo a C none) ∧ ∀ d, H d = none → d ≠ a → E.nx t (upd (upd H d (exd d [(y, z), (x, u)])) a (exo a C (some d))), ?_, ?_⟩
  · rw [hb]
    exact err_body2 (nm_of rfl rfl rfl v0 (by decide) (by decide)) (nm_of rfl rfl rfl v1 h1 h2) (nm_of rfl rfl rfl v2 h3 h4) ox nf ng
  · exact ⟨rfl, rfl, rfl, ha, fun d hd hn => K d hd hn⟩
end
end Fw

set_option Elab.async false
set_option linter.all false
set_option maxRecDepth 100000
set_option maxHeartbeats 4000000
namespace Fw
open PySem L2

/-! ### sizes of numbers -/
class Bd (i : Int) (n : outParam Nat) : Prop where
  h : i.natAbs < 2 ^ n
theorem pow_le {a b : Nat} (h : a ≤ b) : (2 : Nat) ^ a ≤ 2 ^ b := Nat.pow_le_pow_right (by decide) h
theorem Bd.up {i : Int} {n m : Nat} (b : Bd i n) (h : n ≤ m) : i.natAbs < 2 ^ m := Nat.lt_of_lt_of_le b.h (pow_le h)
instance bd_lit {k : Nat} : Bd (no_index (OfNat.ofNat k : Int)) (k.log2 + 1) := ⟨by
  show (Int.natAbs (k : Int)) < _
  rw [Int.natAbs_natCast]
  exact Nat.lt_log2_self⟩
instance bd_add {a b : Int} {n m : Nat} [x : Bd a n] [y : Bd b m] : Bd (a + b) (max n m + 1) := ⟨by
  have h1 := x.up (Nat.le_max_left n m)
  have h2 := y.up (Nat.le_max_right n m)
  have h3 := Int.natAbs_add_le a b
  have h4 : 2 ^ (max n m + 1) = 2 ^ max n m * 2 := Nat.pow_succ _ _
  omega⟩
instance bd_sub {a b : Int} {n m : Nat} [x : Bd a n] [y : Bd b m] : Bd (a - b) (max n m + 1) := ⟨by
  have h1 := x.up (Nat.le_max_left n m)
  have h2 := y.up (Nat.le_max_right n m)
  have h3 := Int.natAbs_sub_le a b
  have h4 : 2 ^ (max n m + 1) = 2 ^ max n m * 2 := Nat.pow_succ _ _
  omega⟩
instance bd_mul {a b : Int} {n m : Nat} [x : Bd a n] [y : Bd b m] : Bd (a * b) (n + m) := ⟨by
  rw [Int.natAbs_mul, Nat.pow_add]
  exact Nat.mul_lt_mul_of_lt_of_lt x.h y.h⟩
instance bd_neg {a : Int} {n : Nat} [x : Bd a n] : Bd (-a) n := ⟨by rw [Int.natAbs_neg]; exact x.h⟩
instance bd_div {a b : Int} {n : Nat} [x : Bd a n] : Bd (a / b) n := ⟨Nat.lt_of_le_of_lt (Int.natAbs_ediv_le_natAbs a b) x.h⟩
instance bd_mod {a b : Int} {n m : Nat} [x : Bd a n] [y : Bd b m] : Bd (a % b) (max n m) := ⟨by
  have h1 := x.up (Nat.le_max_left n m)
  have h2 := y.up (Nat.le_max_right n m)
  by_cases hb : b = 0
  · rw [hb, Int.emod_zero]; exact h1
  · have e1 := Int.emod_nonneg a hb
    have e2 := Int.emod_lt a hb
    omega⟩
instance bd_ite {c : Prop} [Decidable c] {a b : Int} {n m : Nat} [x : Bd a n] [y : Bd b m] : Bd (if c then a else b) (max n m) := ⟨by
  split
  · exact x.up (Nat.le_max_left n m)
  · exact y.up (Nat.le_max_right n m)⟩
instance bd_abs {a : Int} {n : Nat} [x : Bd a n] : Bd ((a.natAbs : Nat) : Int) n := ⟨by rw [Int.natAbs_natCast]; exact x.h⟩
theorem gcd_le {a b : Int} : Int.gcd a b ≤ max a.natAbs b.natAbs := by
  by_cases h : a = 0
  · subst h
    rw [Int.gcd_zero_left]
    omega
  · have := Nat.le_of_dvd (by omega) (Int.gcd_dvd_natAbs_left a b)
    omega
instance bd_gcd {a b : Int} {n m : Nat} [x : Bd a n] [y : Bd b m] : Bd ((Int.gcd a b : Nat) : Int) (max n m) := ⟨by
  have h1 := x.up (Nat.le_max_left n m)
  have h2 := y.up (Nat.le_max_right n m)
  have h3 := gcd_le (a := a) (b := b)
  rw [Int.natAbs_natCast]
  omega⟩
theorem log_bd {i : Int} {n : Nat} (b : Bd i n) : i.natAbs.log2 ≤ n := by
  by_cases h : i.natAbs = 0
  · rw [h]; exact Nat.zero_le _
  · exact Nat.le_of_lt ((Nat.log2_lt h).mpr b.h)
theorem cmul {i j : Int} {n m : Nat} [x : Bd i n] [y : Bd j m] (h : n + m < 1000000) : CMulW i j := by
  have := log_bd x
  have := log_bd y
  unfold CMulW
  omega
theorem cdiv {i j : Int} {m : Nat} [y : Bd j m] (h0 : 0 < j) (h : m < 9000) : CDivW i j := ⟨h0, by have := log_bd y; omega⟩

/-! ### lists of numbers -/
theorem atI_nat {α : Type} {l : List α} {n : Nat} {x : α} (h : l[n]? = some x) : atI l (n : Int) = some x := by
  have hl : n < l.length := (List.getElem?_eq_some_iff.mp h).1
  unfold atI
  have e : ixN l.length (n : Int) = some n := by
    unfold ixN
    rw [if_pos (by omega), if_pos (by omega)]
    first | rfl | (congr 1; omega)
  rw [e]
  exact h
theorem atI_int {l : List Int} {i : Int} (h0 : 0 ≤ i) (h : i < l.length) : atI (l.map D.int) i = some (.int (l.getD i.toNat 0)) := by
  have e : ((i.toNat : Nat) : Int) = i := Int.toNat_of_nonneg h0
  have hn : i.toNat < l.length := by omega
  rw [← e]
  refine atI_nat ?_
  rw [Int.toNat_natCast, List.getElem?_map, List.getElem?_eq_getElem hn, List.getD_eq_getElem?_getD, List.getElem?_eq_getElem hn]
  rfl
theorem itOf_int {l : List Int} {i : Nat} (h : i < l.length) : itOf (l.map D.int) i = .int (l.getD i 0) := by
  unfold itOf
  rw [List.getD_eq_getElem?_getD, List.getD_eq_getElem?_getD, List.getElem?_map, List.getElem?_eq_getElem h]
  rfl
theorem flats_int : ∀ l : List Int, flats (l.map D.int) = true
  | [] => rfl
  | _ :: l => by
    unfold List.map flats
    rw [flats_int l]
    rfl
/-- how deep a datum is -/
def deep : D → Nat
  | .tup xs => deeps xs + 1
  | .lst xs => deeps xs + 1
  | _ => 0
where deeps : List D → Nat
  | [] => 0
  | d :: ds => max (deep d) (deeps ds)
end Fw
namespace Fw
open PySem L2
def quietB : Nat → En → Bool
  | _, [] => true
  | 0, _ :: g => g.all Sl.quiet
  | i + 1, s :: g => s.quiet && quietB i g
theorem quietB_ok : ∀ {i : Nat} {g : En}, quietB i g = true → ∀ j s, j ≠ i → g[j]? = some s → s.quiet = true
  | _, [], _, j, s, _, h => by simp at h
  | 0, _ :: g, q, 0, s, n, _ => absurd rfl n
  | 0, _ :: g, q, j + 1, s, _, h => List.all_eq_true.mp q s (List.mem_of_getElem? (by simpa using h))
  | i + 1, u :: g, q, 0, s, _, h => by
    unfold quietB at q
    rw [Bool.and_eq_true] at q
    have : u = s := by simpa using h
    rw [← this]
    exact q.1
  | i + 1, u :: g, q, j + 1, s, n, h => by
    unfold quietB at q
    rw [Bool.and_eq_true] at q
    exact quietB_ok q.2 j s (fun z => n (by rw [z])) (by simpa using h)
end Fw
namespace Fw
open PySem L2
def basic : D → Bool
  | .pt _ _ _ => false
  | .obj _ _ => false
  | _ => true
def isTy (T : String) : D → Bool
  | .int _ => T == "int"
  | .bl _ => T == "bool" || T == "int"
  | .str _ => T == "str"
  | .tup _ => T == "tuple"
  | .lst _ => T == "list"
  | _ => false
section
variable {K : PySem.W.Frag} {S : Sg} {d : D}
theorem kit_int (h : basic d = true) : PySem.W.kitOne K (tyD S d) (.type "int") = some (isTy "int" d) := by
  cases d <;> first | rfl | cases h
theorem kit_bool (h : basic d = true) : PySem.W.kitOne K (tyD S d) (.type "bool") = some (isTy "bool" d) := by
  cases d <;> first | rfl | cases h
theorem kit_str (h : basic d = true) : PySem.W.kitOne K (tyD S d) (.type "str") = some (isTy "str" d) := by
  cases d <;> first | rfl | cases h
theorem kit_tuple (h : basic d = true) : PySem.W.kitOne K (tyD S d) (.type "tuple") = some (isTy "tuple" d) := by
  cases d <;> first | rfl | cases h
theorem kit_list (h : basic d = true) : PySem.W.kitOne K (tyD S d) (.type "list") = some (isTy "list" d) := by
  cases d <;> first | rfl | cases h
end
end Fw

set_option Elab.async false
set_option linter.all false
set_option maxRecDepth 100000
set_option maxHeartbeats 4000000
namespace Fw
open PySem L2
/-- == of points, by their own def -/
structure PtEq (W : Wd) (S : Sg) (k : Nat) (R : List D → Out → Prop) : Prop where
  ex : ∃ q, FnM W S k q 2 [] R ∧ PySem.W.findIn W.K (.ref S.cP) "__eq__" = some (some (.ref q)) ∧ PySem.W.isFn W.K (.ref q) = true
  nP : PySem.W.notFirst W.K S.cP (.ref S.cP) = true
  nT : PySem.W.notFirst W.K S.cP (.type "tuple") = true
section
variable {X : Cx} {W : Wd} {S : Sg} {k j : Nat} {d : D} {l : List D} {R : List D → Out → Prop} {a b c x y v : Int}
theorem c_ptEq (C : Cc X W S k) (F : PtEq W S j R) (hR : R [.pt a b c, .pt x y v] (.ok d)) (hj : j ≤ k) : BinD X S (compareOp .Eq) (.pt a b c) (.pt x y v) d := by
  obtain ⟨q, F1, h1, h2⟩ := F.ex
  exact c_own C F1 rfl h1 h2 F.nP hR hj
theorem c_ptEqT (C : Cc X W S k) (F : PtEq W S j R) (hR : R [.pt a b c, .tup l] (.ok d)) (hj : j ≤ k) : BinD X S (compareOp .Eq) (.pt a b c) (.tup l) d := by
  obtain ⟨q, F1, h1, h2⟩ := F.ex
  exact c_own C F1 rfl h1 h2 F.nT hR hj
end
/-! ### a law's promise -/
def RLaw (ds : List D) (o : Out) : Prop := ∃ ns : List Int, ns.length ≤ 63 ∧ ds = [.lst (ns.map D.int)] ∧ o = .ok (.bl true)
def spLaw (K : PySem.W.Frag) : Sp := fun vs H Q _ => ∃ (a : Addr) (ns : List Int), vs = [.ref a] ∧ ns.length ≤ 63 ∧ SqL K H a (ns.map V.int) ∧ ∀ H', Q (.bl true) H'
theorem law_imp {S : Sg} {vs : List V} {H : Hp} {Q : VK} {E : XK} (h : spLaw S.K vs H Q E) : spOf S 1 RLaw vs H Q E := by
  obtain ⟨a, ns, rfl, hl, hq, K⟩ := h
  have e : hid [] H = H := by funext b; unfold hid; rw [if_neg (fun z => nomatch z)]
  refine ⟨rfl, [], _, _, (fun b z => nomatch z), .cons (.lst (by rw [e]; exact hq) (Reps.of_ints ns)) .nil, ⟨ns, hl, rfl, rfl⟩, fun v H' _ r => ?_⟩
  cases r
  exact K H'
/-- defaults -/
theorem fd_mk {K : PySem.W.Frag} {x qual : Str} {st : Stmt} {f : Addr} {oc : Value} {od an : Option Addr} {osl : Array (Option Value)} {kV doc pm cdv ct : Value} (l : K.lookup f = some ⟨oc, od, .func (PySem.W.fnOf x qual (defArgs st) (defBody st) (defScope st) .none kV doc pm an cdv ct), osl⟩)
    (c : PySem.W.codeIn K cdv qual = true) (k : PySem.W.keepIn K (.ref f) = true) : Fd K x qual st [] f (PySem.W.fnOf x qual (defArgs st) (defBody st) (defScope st) .none kV doc pm an cdv ct) := ⟨⟨oc, od, .none, kV, doc, pm, an, cdv, ct, osl, rfl, l, c, .inl ⟨rfl, rfl⟩, .inl rfl⟩, k⟩
theorem fd_mkD {K : PySem.W.Frag} {x qual : Str} {st : Stmt} {f T : Addr} {oc tc : Value} {od an td : Option Addr} {osl tsl : Array (Option Value)} {kV doc pm cdv ct : Value} {its : List Value} {tn : Nat} {dvs : List V}
    (l : K.lookup f = some ⟨oc, od, .func (PySem.W.fnOf x qual (defArgs st) (defBody st) (defScope st) (.ref T) kV doc pm an cdv ct), osl⟩) (lT : K.lookup T = some ⟨tc, td, .seq its.toArray tn, tsl⟩) (hv : Vals dvs its) (hd : dvs ≠ [])
    (c : PySem.W.codeIn K cdv qual = true) (k : PySem.W.keepIn K (.ref f) = true) : Fd K x qual st dvs f (PySem.W.fnOf x qual (defArgs st) (defBody st) (defScope st) (.ref T) kV doc pm an cdv ct) := ⟨⟨oc, od, .ref T, kV, doc, pm, an, cdv, ct, osl, rfl, l, c, .inr ⟨hd, T, _, its, tn, rfl, lT, rfl, hv⟩, .inl rfl⟩, k⟩
end Fw
namespace Fw
open PySem L2
section
variable {K : PySem.W.Frag} {C E : Addr} {T : String} {b : Bool} {t : Value}
theorem kitC_of (h2 : PySem.W.isClsIn K C = true) (h3 : PySem.W.typeIn K (.ref C) = some (.type "type")) (h4 : PySem.W.subIn K t (.ref C) = some b) : PySem.W.kitCls K t (.ref C) = some b := by
  have h2' : (PySem.W.clsIn K C).isSome = true := h2
  unfold PySem.W.kitCls
  dsimp only
  rw [h2', h3]
  exact h4
theorem kitC_self : PySem.W.kitOne K (.ref C) (.ref C) = some true := if_pos (beq_self_eq_true _)
theorem kitC_ty (h : PySem.W.kitCls K (.type T) (.ref C) = some b) : PySem.W.kitOne K (.type T) (.ref C) = some b := by
  unfold PySem.W.kitOne
  have n : ¬ (Value.type T == Value.ref C) = true := fun z => by
    have := beq_iff_eq.mp z
    cases this
  rw [if_neg n, h]
theorem kitC_sub (h : PySem.W.kitCls K (.ref E) (.ref C) = some true) : PySem.W.kitOne K (.ref E) (.ref C) = some true := by
  unfold PySem.W.kitOne
  split
  · rfl
  · exact h
theorem kitC_blt (hm : PySem.W.kitMeta T = true) (h : PySem.W.subIn K (.ref E) (.type T) = some b) : PySem.W.kitOne K (.ref E) (.type T) = some b := by
  unfold PySem.W.kitOne
  have n : ¬ (Value.ref E == Value.type T) = true := fun z => by
    have := beq_iff_eq.mp z
    cases this
  rw [if_neg n]
  unfold PySem.W.kitCls
  dsimp only
  rw [if_pos hm, h]
theorem exmC_of (h1 : PySem.W.subIn K (.ref C) (.type "BaseException") = some true) (h : PySem.W.kitCls K (.ref E) (.ref C) = some b) : PySem.W.exmOne K (.ref E) (.ref C) = some b := by
  unfold PySem.W.exmOne
  rw [h1]
  exact h
end
/-- the law's own call: nothing leaves it -/
theorem cx_none {P : Program} {w : World} (H : Hp) (s : Shared) (e : Value) (s' : Shared) (h : L2N.CX P w [] H s (fun _ _ _ => False) e s') : False := by
  obtain ⟨_, _, _, _, _, _, _, _, _, _, _, _, z⟩ := h
  exact z
end Fw

set_option Elab.async false
set_option linter.all false
set_option maxRecDepth 100000
set_option maxHeartbeats 4000000
namespace PySem.W
open PySem PySem.Calls PyProof.Rows Builtin
theorem fw_intmul (a : Int) (t : Tok) (l : Addr) (C dx : Addr) (sl : Array (Option Value)) :
    Meets (Builtin.«int.__mul__» ⟨[.int a t, .ref l], []⟩) (fun _ R s => s.heap.get? l = some { instObj C dx with slots := sl } ∧ R (.ok (.ret Value.notImplemented)) s) :=
  .of_wp fun prog w A R s h => by
    obtain ⟨hp, g, d, tk, os⟩ := s
    obtain ⟨hl, h⟩ := h
    unfold instObj at hl
    wp_walk using wpAny_loadPart' hl
    exact ⟨_, rfl, h⟩
section
variable {prog : Program} {w : World} {A : Around} {E : Value → Shared → Prop} {s : Shared} {K : Frag} {x C dx L f fm : Addr} {h₀ : Heap} {m : Str → Option Value} {sl : Array (Option Value)} {od : Option Obj}
theorem fw_rmul {n : Int} {t : Tok} {Q : Value → Shared → Prop} (F : Fr h₀ L s.heap m) (X₀ : K.In h₀) (I : InstAt s.heap x { instObj C dx with slots := sl } C od) (hc : selfFirst K C = true) (hm : findIn K (.ref C) (PySem.dunder "mul") = some (some (.ref fm)))
    (hs : findIn K (.ref C) (dunderR "mul") = some (some (.ref f))) (hf : isFn K (.ref f) = true) (hsub : subIn K (.ref C) (.type "int") = some false)
    (h : wpAny (model prog w) A (call (.ref f) [.ref x, .int n t]) (CmpBack Q) E s) : wpAny (model prog w) A (binaryOp .Mult (.int n t) (.ref x)) Q E s := by
  have X := X₀.keeps F.keep
  obtain ⟨cd, rest, hcd, hmr⟩ := ksp_first hc
  have one := ksp_try X I hs hf h
  have hobj : s.heap.get? x = some { instObj C dx with slots := sl } := I.1
  have T1 : s.TypeIs (.int n t) "int" := typeIs_int s n t
  have dec : wpAny (model prog w) A (tryMethod (.int n t) (PySem.dunder "mul") (.ref x)) (fun r s' => r = none ∧ s' = s) E s :=
    wpAny_tryMethod_declines T1 PySem.F.slot_int_mul (call_meets PySem.F.slot_int_mul T1 PySem.F.entry_int_mul (PySem.F.args_int_mul_2 _ _) (fw_intmul n t x C dx sl) ⟨hobj, rfl, rfl, rfl⟩)
  obtain ⟨hh, g, d, tt, os⟩ := s
  have L1 : Looks (model prog w) hh (typeOf (.int n t)) (.type "int") := Looks.of_pure rfl
  have L2 : Looks (model prog w) hh (typeOf (.ref x)) (.ref C) := I.type
  have L3 : Looks (model prog w) hh (fillsNumberSlot (.type "int") "mul") true := Looks.of_pure PySem.F.fills_int_mul
  have L4 : Looks (model prog w) hh (fillsNumberSlot (.ref C) "mul") true := fills_K X hcd hmr hm
  have L5 : Looks (model prog w) hh (isSubtype (.ref C) (.type "int")) false := looks_subIn X hsub
  have L7 : Looks (model prog w) hh (numberSlotInPython (.type "int") "mul") false := Looks.of_pure rfl
  have hne : (Value.type "int" == Value.ref C) = false := Bool.eq_false_iff.mpr fun q => by cases beq_iff_eq.mp q
  have hi : Operator.Mult.info.2 = "mul" := rfl
  unfold binaryOp
  refine wpAny_holding (wpAny_bind ?_)
  show wpAny _ _ (binaryOp1 "mul" (.int n t) (.ref x)) _ _ _
  unfold binaryOp1
  refine wpAny_bind (L1.at (wpAny_bind (L2.at (wpAny_bind (L3.at ?_)))))
  simp only [hne, Bool.false_eq_true, if_false]
  refine wpAny_bind (L4.at ?_)
  simp only [Bool.and_self, if_true]
  refine wpAny_bind (L5.at ?_)
  simp only [Bool.false_eq_true, if_false, Bool.not_false, Bool.and_true, Bool.and_self, if_true, pure_bind]
  refine wpAny_bind (L7.at ?_)
  simp only [Bool.false_eq_true, if_false, pure_bind]
  refine wpAny_bind (wpAny_mono dec (fun r s' z => ?_) fun _ _ e => e)
  obtain ⟨rfl, rfl⟩ := z
  dsimp only
  refine wpAny_bind (wpAny_mono one (fun r s' z => ?_) fun _ _ e => e)
  obtain ⟨v, rfl, hq⟩ := z
  dsimp only
  exact wpAny_bind (wpAny_rule (wpAny_pure (wpAny_pure hq)))
theorem fw_abs {Q : Value → Shared → Prop} (F : Fr h₀ L s.heap m) (X₀ : K.In h₀) {ox : Obj} (I : InstAt s.heap x ox C od) (hs : findIn K (.ref C) "__abs__" = some (some (.ref f))) (hf : isFn K (.ref f) = true)
    (h : wpAny (model prog w) A.in1 (call (.ref f) [.ref x]) Q E s) : wpAny (model prog w) A (call (.builtin "abs") [.ref x]) Q E s := by
  refine call_function_entry PyProof.Rows.kind_abs PyProof.Rows.plain_abs PyProof.Rows.entry_abs (PyProof.Rows.args_abs _) ?_
  unfold Builtin.«abs»
  refine wpAny_bind (m := oneArg "abs" _) (wpAny_pure ?_)
  refine wpAny_bind (m := callSpecial? (.ref x) (Str.ofString "__abs__")) (special_fn (X₀.keeps F.keep) I hs (beq_iff_eq.mp hf) (wpAny_mono h (fun v s' z => ?_) fun _ _ z => z))
  exact wpAny_pure ⟨v, rfl, z⟩
end
end PySem.W
namespace Fw
open PySem L2
/-! ### own operators -/
def BinQ (X : Cx) (S : Sg) (U : WX) (f : Value → Value → Sem Value) (da db : D) (o : Out) : Prop := ∀ (pins : List (Addr × Obj)) (s : Shared) (σ : L2.St) (H : Hp) (x y : V) (v u : Value) (Q : VK), L2.Inv X pins σ H s → RelV x v → RelV y u →
  (∃ M, (∀ a ∈ M, H a ≠ none) ∧ Reps S (hid M H) [x, y] [da, db] ∧ OutK S H M Q (fun c d H' => U c d σ H') o) → wpAny (model X.prog X.w) X.A (f v u) (EP X pins σ Q) X.xe s
def UnQ (X : Cx) (S : Sg) (U : WX) (f : Value → Sem Value) (da : D) (o : Out) : Prop := ∀ (pins : List (Addr × Obj)) (s : Shared) (σ : L2.St) (H : Hp) (x : V) (v : Value) (Q : VK), L2.Inv X pins σ H s → RelV x v →
  (∃ M, (∀ a ∈ M, H a ≠ none) ∧ Reps S (hid M H) [x] [da] ∧ OutK S H M Q (fun c d H' => U c d σ H') o) → wpAny (model X.prog X.w) X.A (f v) (EP X pins σ Q) X.xe s
section
variable {X : Cx} {W : Wd} {S : Sg} {U : WX} {k j : Nat} {g : En} {e a b : Expr} {es : List Expr} {d da db : D} {ds dd : List D} {m : Str} {n : Nat} {pos apos : Pos} {q A : Addr} {R : List D → Out → Prop} {o : Out} {z : Int}
theorem outk_mono {H H' : Hp} {M : List Addr} {Q : VK} {E : XK} (e : Same H H') (h : OutK S H M Q E o) : OutK S H' M Q E o := by
  cases o with
  | ok d => exact fun v H2 e2 r => h v H2 (e.trans e2) r
  | err c fs => exact fun dx ws H2 e2 x => h dx ws H2 (e.trans e2) (x.back e)
  | new d => exact fun p H2 hp e2 x => h p H2 (e.free hp) (e.trans e2) x
theorem BinQ.toD {f : Value → Value → Sem Value} (h : BinQ X S U f da db (.ok d)) : BinD X S f da db d := fun pins s σ H x y v u Q I rx ry q => h pins s σ H x y v u Q I rx ry q
theorem UnQ.toD {f : Value → Sem Value} (h : UnQ X S U f da (.ok d)) : UnD X S f da d := fun pins s σ H x v Q I rx q => h pins s σ H x v Q I rx q
theorem q_bin {op : Operator} (ha : Fw.XE X S g a da) (hb : Fw.XE X S g b db) (ho : BinQ X S U (binaryOp op) da db o) : XQ X S U g (.BinOp a op b pos) o := by
  refine ⟨fun pins s σ H Q I w => ?_⟩
  obtain ⟨B, M, st, kk⟩ := w
  refine wpAny_BinOp (binT (R := fun x y H2 => ∃ M, (∀ a ∈ M, H2 a ≠ none) ∧ Reps S (hid M H2) [x, y] [da, db] ∧ OutK S H2 M Q (fun c d H' => U c d σ H') o) ha hb I ?_ fun v u s2 x y H2 I2 rx ry w => ho pins s2 σ H2 x y v u Q I2 rx ry w)
  exact ⟨B, M, st, fun x H1 e1 r1 => ⟨B, M, st.mono e1, fun y H2 e2 r2 => ⟨M, (st.mono (e1.trans e2)).trk, .cons (r1.mono (hid_same e2)) (.cons r2 .nil), outk_mono (e1.trans e2) kk⟩⟩⟩
theorem inst_sl {pins : List (Addr × Obj)} {σ : L2.St} {H : Hp} {s : Shared} {M : List Addr} {v : V} (I : L2.Inv X pins σ H s) (r : Rep S (hid M H) v d) (h : clD S d = some A) : ∃ a dx sl od, v = .ref a ∧ PySem.W.InstAt s.heap a { PySem.W.instObj A dx with slots := sl } A (some od) := by
  cases r with
  | pt hs hx hy ho =>
    cases h
    obtain ⟨sl, od, _, J, _⟩ := SlX.slt_inst I (slt_mono hid_le hs)
    exact ⟨_, _, sl, od, rfl, J⟩
  | obj hs r =>
    cases h
    obtain ⟨mA, O, _⟩ := ins_get I.hok (hid_some hs).2
    obtain ⟨od, J, _⟩ := O.look
    exact ⟨_, _, #[], od, rfl, J⟩
  | _ => cases h
theorem back_mono {pins : List (Addr × Obj)} {σ : L2.St} {Q : VK} {w : Value} {s' : Shared} (z : EP X pins σ Q w s') : PySem.W.CmpBack (EP X pins σ Q) w s' := by
  obtain ⟨v, H', I', rz, qz⟩ := z
  exact SlX.cmpback rz ⟨v, H', I', rz, qz⟩
/-- what a class says of an operator's def -/
structure OwnOp (W : Wd) (S : Sg) (A : Addr) (nm : Str) (k n : Nat) (R : List D → Out → Prop) : Prop where
  ex : ∃ q, FnM W S k q n [] R ∧ PySem.W.findIn W.K (.ref A) nm = some (some (.ref q)) ∧ PySem.W.isFn W.K (.ref q) = true
/-- two of one class -/
theorem b_own {op : Operator} (C : Cc X W S k) (tk : L2N.Takes X U) (F : OwnOp W S A (PySem.dunder op.info.2) j 2 R) (ha : clD S da = some A) (hb : tyD S db = .ref A) (hc : PySem.W.selfFirst W.K A = true) (hR : R [da, db] o) (hj : j ≤ k) : BinQ X S U (binaryOp op) da db o := by
  obtain ⟨q, F1, hs, hf⟩ := F.ex
  rintro pins s σ H x y v u Q I rx ry ⟨M, tr, r, kk⟩
  obtain ⟨x', y', e, q1, q2⟩ := r.two
  cases e
  obtain ⟨a, ox, od, rfl, J⟩ := inst_at I q1 ha
  cases rx
  obtain ⟨m, hF⟩ := I.fr
  rw [← C.kw] at hs hf hc
  have ht := typ_at C.toKb I q2 ry
  rw [hb] at ht
  refine PySem.W.binop_K hF I.ok.mod.kin J ht hc hs hf ?_
  exact wpAny_mono (run_MQ (vs := [.ref a, y]) (us := [.ref a, u]) C tk F1 hj I (.cons rfl (.cons ry .nil)) tr (.cons q1 (.cons q2 .nil)) rfl hR kk) (fun w s' z => back_mono z) fun _ _ x => x
/-- with an int on the right -/
theorem b_ownI {op : Operator} {fo ro rc : Option Value} (C : Cc X W S k) (tk : L2N.Takes X U) (F : OwnOp W S A (PySem.dunder op.info.2) j 2 R) (ha : clD S da = some A) (hc : PySem.W.selfFirst W.K A = true) (hr : PySem.W.findIn W.K (.ref A) (dunderR op.info.2) = some rc) (hp : rc = none ∨ ∃ g : Addr, rc = some (.ref g))
    (h1 : PySem.W.findIn W.K (.type "int") (PySem.dunder op.info.2) = some fo) (h2 : PySem.W.findIn W.K (.type "int") (dunderR op.info.2) = some ro) (hsub : PySem.W.subIn W.K (.type "int") (.ref A) = some false) (hR : R [da, .int z] o) (hj : j ≤ k) : BinQ X S U (binaryOp op) da (.int z) o := by
  obtain ⟨q, F1, hs, hf⟩ := F.ex
  rintro pins s σ H x y v u Q I rx ry ⟨M, tr, r, kk⟩
  obtain ⟨x', y', e, q1, q2⟩ := r.two
  cases e
  obtain ⟨a, ox, od, rfl, J⟩ := inst_at I q1 ha
  cases rx
  cases q2
  have ry' := ry
  obtain ⟨t, rfl⟩ := ry'
  obtain ⟨m, hF⟩ := I.fr
  rw [← C.kw] at hs hf hc hr h1 h2 hsub
  refine PySem.W.ksp_binT hF I.ok.mod.kin J (b := .int z t) (T := "int") rfl hc hs hf hr hp h1 h2 hsub ?_
  exact wpAny_mono (run_MQ (vs := [.ref a, .int z]) (us := [.ref a, .int z t]) C tk F1 hj I (.cons rfl (.cons ry .nil)) tr (.cons q1 (.cons (.int z) .nil)) rfl hR kk) (fun w s' z => back_mono z) fun _ _ x => x
/-- int * own -/
theorem b_rmul (C : Cc X W S k) (tk : L2N.Takes X U) (F : OwnOp W S A (dunderR "mul") j 2 R) (hb : clD S db = some A) (hc : PySem.W.selfFirst W.K A = true) {fm : Addr} (hm : PySem.W.findIn W.K (.ref A) (PySem.dunder "mul") = some (some (.ref fm))) (hsub : PySem.W.subIn W.K (.ref A) (.type "int") = some false)
    (hR : R [db, .int z] o) (hj : j ≤ k) : BinQ X S U (binaryOp .Mult) (.int z) db o := by
  obtain ⟨q, F1, hs, hf⟩ := F.ex
  rintro pins s σ H x y v u Q I rx ry ⟨M, tr, r, kk⟩
  obtain ⟨x', y', e, q1, q2⟩ := r.two
  cases e
  cases q1
  have rx' := rx
  obtain ⟨t, rfl⟩ := rx'
  obtain ⟨a, dx, sl, od, rfl, J⟩ := inst_sl I q2 hb
  cases ry
  obtain ⟨m, hF⟩ := I.fr
  rw [← C.kw] at hs hf hc hm hsub
  refine PySem.W.fw_rmul hF I.ok.mod.kin J hc hm hs hf hsub ?_
  exact wpAny_mono (run_MQ (vs := [.ref a, .int z]) (us := [.ref a, .int z t]) C tk F1 hj I (.cons rfl (.cons rx .nil)) tr (.cons q2 (.cons (.int z) .nil)) rfl hR kk) (fun w s' z => back_mono z) fun _ _ x => x
theorem u_own (C : Cc X W S k) (tk : L2N.Takes X U) (F : OwnOp W S A "__neg__" j 1 R) (ha : clD S da = some A) (hR : R [da] o) (hj : j ≤ k) : UnQ X S U (unaryOp .USub) da o := by
  obtain ⟨q, F1, hs, hf⟩ := F.ex
  rintro pins s σ H x v Q I rx ⟨M, tr, r, kk⟩
  obtain ⟨x', e, q1⟩ := r.one
  cases e
  obtain ⟨a, ox, od, rfl, J⟩ := inst_at I q1 ha
  cases rx
  obtain ⟨m, hF⟩ := I.fr
  rw [← C.kw] at hs hf
  refine PySem.W.ksp_neg hF I.ok.mod.kin J hs hf ?_
  exact run_MQ (vs := [.ref a]) (us := [.ref a]) C tk F1 hj I (.cons rfl .nil) tr (.cons q1 .nil) rfl hR kk
/-- abs(own) -/
theorem k_absO (C : Cc X W S k) (F : OwnOp W S A "__abs__" j 1 R) (ha : clD S da = some A) (hR : R [da] (.ok d)) (hj : j + 1 ≤ k) : CallD X S (.builtin "abs") [da] d := by
  obtain ⟨q, F1, hs, hf⟩ := F.ex
  have F' := F1.fnr
  rintro pins s σ H xs us Q I r ⟨M, tr, rr, kk⟩
  obtain ⟨x', e, q1⟩ := rr.one
  cases e
  obtain ⟨a, ox, od, rfl, J⟩ := inst_at I q1 ha
  obtain ⟨u, rfl, ru⟩ := r.one
  cases ru
  obtain ⟨m, hF⟩ := I.fr
  have hr := C.room
  obtain ⟨⟨w1, w2, c3, c4⟩, c1, c2⟩ := C
  subst w1
  refine PySem.W.fw_abs hF I.ok.mod.kin J hs hf (wpAny_call (SlX.run_at (us := [.ref a]) (ws := [.ref a]) F' ((hr.mono hj).in1) I.env0.in1 passN I (.cons rfl .nil) ⟨M, _, _, rfl, tr, .cons q1 .nil, hR, kk⟩))
/-- p.m(), p a point -/
theorem e_ptm0 {px py po : Int} {pl : Sem Bool} (C : Cc X W S k) (T : PtC W S) (hm : ∃ q, Meth W.K S.cP m q ∧ FnM W S j q 1 [] R) (he : Fw.XE X S g e (.pt px py po)) (hR : R [.pt px py po] (.ok d)) (hj : j ≤ k)
    (ht : eval (.Call (.Attribute e m apos) [] [] pos) X.env = (do
      let ov ← eval e X.env
      standAt apos.atName
      let (f, first) ← holding [ov] (getMethod ov m pl)
      callWith pos f first (backTo pos (starEach [] X.env)) (backToKw pos (keywordEach [] X.env))) := by rfl) : Fw.XE X S g (.Call (.Attribute e m apos) [] [] pos) d := by
  obtain ⟨q, hq, F⟩ := hm
  have F' := F.fnr
  obtain ⟨⟨w1, w2, c3, c4⟩, c1, c2⟩ := C
  subst w1
  refine peI (SlX.pe_methSl0 (E := E0) he T.scls hq F' (c2.mono hj) passN ht) fun σ H Q ⟨B, M, st, kk⟩ => ⟨B, M, st, fun v H1 e1 r => ?_⟩
  cases r with
  | pt h hx hy ho =>
    exact ⟨_, _, _, rfl, slt_mono hid_le h, M, _, _, rfl, (st.mono e1).trk, .cons (.pt h hx hy ho) .nil, hR, fun v H2 e2 r2 => kk v H2 (e1.trans e2) r2⟩
end
end Fw

set_option Elab.async false
set_option linter.all false
set_option maxRecDepth 100000
set_option maxHeartbeats 4000000
namespace Fw
open PySem L2 PySem.Spec PyProof.Rows
section
variable {X : Cx} {W : Wd} {S : Sg} {i j : Int} {n m : Nat}
/-- // by any wide number that is not 0 -/
theorem op_fdivA : OpR X (binaryOp .FloorDiv) (rI (fun _ j => j ≠ 0 ∧ j.natAbs.log2 < 9000) fun i j => .int (i.fdiv j)) := opI fun _ _ _ _ _ _ _ hc q => floordiv_int hc.1 q (.inl (PyProof.noPylong_of_log2 hc.2))
theorem b_fdivN [y : Bd j m] (h0 : j ≠ 0) (h : m < 9000) : BinD X S (binaryOp .FloorDiv) (.int i) (.int j) (.int (i.fdiv j)) := binII op_fdivA (fun H Q q => ⟨i, j, rfl, rfl, ⟨h0, by have := log_bd y; omega⟩, q⟩) fun H => .int _
theorem fdiv_flip : i.fdiv j = (-i).fdiv (-j) := by rw [Int.neg_fdiv_neg]
theorem natAbs_fdiv_le : (i.fdiv j).natAbs ≤ i.natAbs := by
  rcases Int.le_total 0 j with h | h
  · rw [Int.fdiv_eq_ediv_of_nonneg _ h]; exact Int.natAbs_ediv_le_natAbs i j
  · rw [fdiv_flip, Int.fdiv_eq_ediv_of_nonneg _ (by omega)]
    have := Int.natAbs_ediv_le_natAbs (-i) (-j)
    rwa [Int.natAbs_neg] at this
instance bd_fdiv [x : Bd i n] : Bd (i.fdiv j) n := ⟨Nat.lt_of_le_of_lt natAbs_fdiv_le x.h⟩
/-- one step of the divisor's way, the signs alike -/
theorem step_abs (hj : j ≠ 0) (h : 0 ≤ i * j) : i.natAbs = (i.fdiv j).natAbs * j.natAbs + (i - i.fdiv j * j).natAbs ∧ 0 ≤ j * (i - i.fdiv j * j) := by
  have key : ∀ {i j : Int}, 0 < j → 0 ≤ i → i.natAbs = (i.fdiv j).natAbs * j.natAbs + (i - i.fdiv j * j).natAbs ∧ 0 ≤ j * (i - i.fdiv j * j) := fun {i j} hj hi => by
    rw [Int.fdiv_eq_ediv_of_nonneg _ (by omega)]
    have e := Int.mul_ediv_add_emod i j
    have r0 := Int.emod_nonneg i (show j ≠ 0 by omega)
    have q0 := Int.ediv_nonneg hi (show 0 ≤ j by omega)
    have em : i - i / j * j = i % j := by rw [Int.mul_comm]; omega
    rw [em]
    refine ⟨?_, Int.mul_nonneg (by omega) r0⟩
    have h1 : ((i / j).natAbs * j.natAbs : Nat) = (i / j * j).natAbs := (Int.natAbs_mul _ _).symm
    rw [h1]
    have h2 : 0 ≤ i / j * j := Int.mul_nonneg q0 (by omega)
    rw [Int.mul_comm] at h2 ⊢
    omega
  rcases Int.lt_or_gt_of_ne hj with z | z
  · have hi : 0 ≤ -i := by
      rcases Int.lt_or_le 0 i with q | q
      · have := Int.mul_neg_of_pos_of_neg q z
        omega
      · omega
    have := key (i := -i) (j := -j) (by omega) hi
    rw [← fdiv_flip, Int.natAbs_neg, Int.natAbs_neg] at this
    have e : -i - i.fdiv j * -j = -(i - i.fdiv j * j) := by rw [Int.mul_neg]; omega
    rw [e, Int.natAbs_neg, Int.neg_mul_neg] at this
    exact this
  · have hi : 0 ≤ i := by
      rcases Int.lt_or_le i 0 with q | q
      · have := Int.mul_neg_of_neg_of_pos q z
        omega
      · omega
    exact key z hi
end
end Fw

set_option Elab.async false
set_option linter.all false
set_option maxRecDepth 100000
set_option maxHeartbeats 4000000
namespace Fw
open PySem L2

/-! ### list comprehensions -/
def wipeG (g : En) : List Nat → En
  | [] => g
  | v :: vs => (wipeG g vs).set v .no
theorem wipe_comm (σ : L2.St) (i : Nat) (x : Option V) : ∀ vs : List Nat, i ∈ vs → L2.wipe (σ.set i x) vs = L2.wipe σ vs
  | [], h => by cases h
  | v :: vs, h => by
    unfold L2.wipe
    by_cases hi : i ∈ vs
    · rw [wipe_comm σ i x vs hi]
    · have e : v = i := by
        rcases List.mem_cons.mp h with z | z
        · exact z.symm
        · exact absurd z hi
      subst e
      have out : ∀ us : List Nat, v ∉ us → L2.wipe (σ.set v x) us = (L2.wipe σ us).set v x := fun us => by
        induction us with
        | nil => intro _; rfl
        | cons u us ih =>
          intro hu
          have h1 : v ≠ u := fun z => hu (by rw [z]; exact List.mem_cons_self)
          have h2 : v ∉ us := fun z => hu (List.mem_cons_of_mem _ z)
          unfold L2.wipe
          rw [ih h2, List.set_comm _ _ h1]
      rw [out vs hi, List.set_set]
section
variable {S : Sg} {B : Bs} {M : List Addr} {g : En} {t : L2.St} {H : Hp}
theorem Stt.wipe (h : Stt S B M g t H) : ∀ vs : List Nat, Stt S B M (wipeG g vs) (L2.wipe t vs) H
  | [] => h
  | v :: vs => (h.wipe vs).put v rfl trivial
/-- a list of the block's own is hidden -/
theorem Stt.keep (h : Stt S B M g t H) {p : Addr} {H' : Hp} {o : HO} (hp : H p = none) (e : Same H H') (hl : H' p = some o) : Stt S B (p :: M) g t H' where
  same := h.same.trans e
  sub := fun a ha => List.mem_cons_of_mem _ (h.sub a ha)
  new := fun a ha => by
    rcases List.mem_cons.mp ha with z | z
    · exact .inr (by rw [z]; exact h.same.free hp)
    · exact h.new a z
  trk := fun a ha => by
    rcases List.mem_cons.mp ha with z | z
    · rw [z, hl]; exact fun z => nomatch z
    · exact (h.mono e).trk a z
  sl := fun j s hj => by
    obtain ⟨o, ho, rr⟩ := h.sl j s hj
    exact ⟨o, ho, (rr.hide hp).mono e⟩
  gh := B.gm _ _ (fun a o z => hid_same e a o (hid_new hp a o z)) h.gh
  apart := h.apart
end
theorem Stt.upHid {S : Sg} {B : Bs} {M : List Addr} {g : En} {t : L2.St} {H : Hp} {D : Addr} {vs : List V} {o' : HO} (h : Stt S B M g t H) (hD : D ∈ M) (h0 : B.H0 D = none) (hl : H D = some (.lst vs)) (no : ∀ (i : Nat) (s : Sl) (a : Addr), g[i]? = some s → s.mine = true → t[i]? = some (some (.ref a)) → a ≠ D) :
    Stt S B M g t (upd H D o') where
  same := fun a u q => by
    rw [upd_ne (ne_of_none q h0)]
    exact h.same _ _ q
  sub := h.sub
  new := h.new
  trk := fun a ha => by
    by_cases q : a = D
    · rw [q, upd_same]; intro z; cases z
    · rw [upd_ne q]; exact h.trk a ha
  sl := fun j u hj => by
    obtain ⟨w, hw, rr⟩ := h.sl j u hj
    refine ⟨w, hw, ?_⟩
    have far : ∀ a, u.mine = true → w = some (.ref a) → a ≠ D := fun a m e => no j u a hj m (by rw [hw, e])
    cases u with
    | no => exact True.intro
    | v d =>
      obtain ⟨v, e1, r1⟩ := rr
      exact ⟨v, e1, by rw [hid_upd hD]; exact r1⟩
    | own ds' =>
      obtain ⟨l', vs', e1, m1, m2, z0, q1, q2⟩ := rr
      exact ⟨l', vs', e1, m1, m2, z0, by rw [upd_ne (far l' rfl e1)]; exact q1, by rw [hid_upd hD]; exact q2⟩
    | ob a dx c fs =>
      obtain ⟨e1, m1, z0, ws, q1, q2⟩ := rr
      exact ⟨e1, m1, z0, ws, by rw [upd_ne (far a rfl e1)]; exact q1, by rw [hid_upd hD]; exact q2⟩
    | pi a dx vs =>
      obtain ⟨e1, m1, m2, z0, z1, ne, hs, hd⟩ := rr
      have na : a ≠ D := far a rfl e1
      have nd : dx ≠ D := fun z => by
        rcases hd with hd | hd
        · rw [z, hl] at hd; cases hd
        · rw [z, hl] at hd; cases hd
      refine ⟨e1, m1, m2, z0, z1, ne, ?_, by rw [upd_ne nd]; exact hd⟩
      rcases hs with ⟨s1, s2⟩ | ⟨s1, s2⟩
      · exact .inl ⟨by rw [upd_ne na]; exact s1, s2⟩
      · exact .inr ⟨by rw [upd_ne na]; exact s1, by rw [upd_ne nd]; exact s2⟩
    | exc a dd c fs =>
      obtain ⟨e1, x⟩ := rr
      refine ⟨e1, fun hq => ?_⟩
      obtain ⟨ws, hd, r1⟩ := x hq
      have nd : dd ≠ D := fun z => by
        rw [z, hl] at hd
        cases hd
      exact ⟨ws, by rw [upd_ne nd]; exact hd, by rw [hid_upd hD]; exact r1⟩
  gh := by rw [hid_upd hD]; exact h.gh
  apart := h.apart
/-- a target in a block: only the block's names change -/
def XGw (X : Cx) (S : Sg) (vs : List Nat) (g : En) (tg : Expr) (d : D) (g' : En) : Prop := PG X tg fun v t H Q => ∃ B M, Stt S B M g t H ∧ Rep S (hid M H) v d ∧ ∀ t', Stt S B M g' t' H → L2.wipe t' vs = L2.wipe t vs → Q t' H
def XGws (X : Cx) (S : Sg) (vs : List Nat) (g : En) (tgs : List Expr) (ds : List D) (g' : En) : Prop := PGs X tgs fun ws t H Q => ∃ B M, Stt S B M g t H ∧ Reps S (hid M H) ws ds ∧ ∀ t', Stt S B M g' t' H → L2.wipe t' vs = L2.wipe t vs → Q t' H
def XTs (X : Cx) (S : Sg) (g : En) (ifs : List Expr) (b : Bool) : Prop := PTs X ifs fun t H Q => ∃ B M, Stt S B M g t H ∧ ∀ H', Same H H' → Q b H'
/-- a block's names -/
structure InK (X : Cx) (W : Wd) (S : Sg) (k : Nat) (N : List Str) (sc : Scope) : Prop where
  C : Cc X W S k
  N : X.N = N
  sc : X.env.scope = sc
section
variable {X : Cx} {W : Wd} {S : Sg} {k : Nat} {N : List Str} {sc : Scope}
theorem InK.nm (b : InK X W S k N sc) (i : Nat) (x : Str) (h : N[i]? = some x) (hv : sc.names.lookup x = some .local ∨ sc.names.lookup x = some .cell ∨ sc.names.lookup x = some .free) (h1 : (x == ("__debug__" : Str)) = false) (h2 : (x == ("__classdict__" : Str)) = false) : Nm X i x :=
  ⟨by rw [b.N]; exact h, by unfold Vis; rw [b.sc]; exact hv, h1, h2⟩
theorem InK.nl (b : InK X W S k N sc) (i : Nat) (x : Str) (h : N[i]? = some x) (hv : sc.names.lookup x = some .local) : Nl X i x :=
  ⟨by rw [b.N]; exact h, by unfold L2.Loc; rw [b.sc]; exact .inl hv, .inr (by rw [b.sc]; exact hv)⟩
theorem InK.ng (b : InK X W S k N sc) (x : Str) (h : sc.names.lookup x = some .globalImplicit) (h1 : (x == ("__debug__" : Str)) = false) : Ng X x :=
  ⟨by show X.env.scope.names.lookup x = _; rw [b.sc]; exact h, h1⟩
end
section
variable {X : Cx} {W : Wd} {S : Sg} {k : Nat} {g g' : En} {vs : List Nat} {d : D} {ds : List D} {x : Str} {i : Nat} {pos : Pos} {e : Expr} {es : List Expr}
theorem gw_name (C : Kb X W S) (N : Nl X i x) (hi : i ∈ vs) : XGw X S vs g (.Name x pos) d (g.set i (.v d)) :=
  pgI (pg_name C.nd N.n N.loc N.fn) fun v σ H Q ⟨B, M, st, r, kk⟩ => kk _ (st.set i r) (wipe_comm σ i _ vs hi)
theorem gws_nil : XGws X S vs g [] [] g := pgsI pgs_nil fun ws σ H Q ⟨B, M, st, r, kk⟩ => by
  cases r
  exact ⟨rfl, kk _ st rfl⟩
theorem gws_cons {g2 : En} (h : XGw X S vs g e d g') (t : XGws X S vs g' es ds g2) (hs : (assignEach (e :: es) X.env).map (·.2) = assign e X.env :: (assignEach es X.env).map (·.2) := by rfl) : XGws X S vs g (e :: es) (d :: ds) g2 :=
  pgsI (pgs_cons h t hs) fun ws σ H Q ⟨B, M, st, r, kk⟩ => by
    cases r with
    | cons r rr => exact ⟨_, _, rfl, B, M, st, r, fun t' st' w1 => ⟨B, M, st', rr, fun t2 st2 w2 => kk t2 st2 (w2.trans w1)⟩⟩
theorem gw_tup {z : Nat} (C : Cc X W S k) (h : XGws X S vs g es ds g') (hn : (assignEach es X.env).length = ds.length := by rfl) (hst : (assignEach es X.env).findIdx? (·.1) = none := by rfl) : XGw X S vs g (.Tuple es z pos) (.tup ds) g' :=
  pgI (pg_tup C.calm h hn hst) fun v σ H Q ⟨B, M, st, r, kk⟩ => by
    cases r with
    | tup hq rr => exact ⟨_, _, rfl, hid_t (by rw [C.kk]; exact hq), rr.length, B, M, st, rr, kk⟩
theorem ts_nil : XTs X S g [] true := ⟨fun pins s σ H Q I ⟨B, M, st, kk⟩ => pts_nil.run pins s σ H Q I (kk H (Same.refl H))⟩
theorem ts_one {b : Bool} (h : XT X S g e b) : XTs X S g [e] b := pts_one h
theorem wipe_idem (σ : L2.St) (vs : List Nat) : L2.wipe (L2.wipe σ vs) vs = L2.wipe σ vs := by
  have key : ∀ us : List Nat, (∀ u ∈ us, u ∈ vs) → L2.wipe (L2.wipe σ us) vs = L2.wipe σ vs := fun us => by
    induction us with
    | nil => intro _; rfl
    | cons u us ih =>
      intro h
      show L2.wipe ((L2.wipe σ us).set u none) vs = _
      rw [wipe_comm _ u _ vs (h u List.mem_cons_self), ih fun w hw => h w (List.mem_cons_of_mem _ hw)]
  exact key vs fun _ h => h
/-- what a comprehension gathers -/
def resL (b : Nat → Bool) (dd : Nat → D) : Nat → List D
  | 0 => []
  | i + 1 => if b i = true then resL b dd i ++ [dd i] else resL b dd i
theorem resL_len {b : Nat → Bool} {dd : Nat → D} : ∀ n, (resL b dd n).length ≤ n
  | 0 => Nat.le_refl _
  | n + 1 => by
    have := resL_len (b := b) (dd := dd) n
    unfold resL
    split
    · rw [List.length_append]; simp; omega
    · omega
theorem resL_map {dd : Nat → D} : ∀ n, resL (fun _ => true) dd n = (List.range n).map dd
  | 0 => rfl
  | n + 1 => by
    unfold resL
    rw [if_pos rfl, resL_map n, List.range_succ, List.map_append]
    rfl
/-- a turn's reading in a block -/
abbrev tgB (S : Sg) (g : En) (vs : List Nat) (n : Nat) (it : Nat → D) (g2 : Nat → En) : TG := fun v t H Q => ∃ i, i < n ∧ ∃ B M, Stt S B M (wipeG g vs) t H ∧ Rep S (hid M H) v (it i) ∧ ∀ t', Stt S B M (g2 i) t' H → L2.wipe t' vs = L2.wipe t vs → Q t' H
abbrev ttB (S : Sg) (n : Nat) (b : Nat → Bool) (g2 : Nat → En) : TT := fun t H Q => ∃ i, i < n ∧ ∃ B M, Stt S B M (g2 i) t H ∧ ∀ H', Same H H' → Q (b i) H'
abbrev teB (S : Sg) (n : Nat) (b : Nat → Bool) (dd : Nat → D) (g2 : Nat → En) : TE := fun t H Q => ∃ i, i < n ∧ b i = true ∧ ∃ B M, Stt S B M (g2 i) t H ∧ ∀ v H', Same H H' → Rep S (hid M H') v (dd i) → Q v H'
theorem lc_run {S : Sg} {g : En} {own : List (Str × Nat)} {n : Nat} {it : Nat → D} (b : Nat → Bool) (dd : Nat → D) (g2 : Nat → En) (hz : n ≤ 100000) {σ : L2.St} {H : Hp} {Q : VK} {B : Bs} {M : List Addr} (st : Stt S B M g σ H)
    (kk : ∀ p vs H', H p = none → Same H H' → H' p = some (.lst vs) → Reps S (hid (p :: M) H') vs (resL b dd n) → Q (.ref p) H') :
    tLc (fun t H R => ∃ B M, Stt S B M g t H ∧ ∀ J Gh H', Same H H' → Walks S J Gh n it → Gh (hid M H') → R J H') (tgB S g (own.map (·.2)) n it g2) (ttB S n b g2) (teB S n b dd g2) (own.map (·.2)) σ H Q := by
  refine ⟨B, M, st, fun J Gh H1 e1 wk hG D hD => ?_⟩
  have st2 : Stt S B M (wipeG g (own.map (·.2))) (L2.wipe σ (own.map (·.2))) H1 := (st.mono e1).wipe _
  have s1 : Same H1 (upd H1 D (.lst [])) := same_upd hD
  have st3 := st2.keep hD s1 upd_same
  have hG' : Gh (hid (D :: M) (upd H1 D (.lst []))) := by
    rw [hid_upd List.mem_cons_self]
    exact wk.mono _ _ (hid_new hD) hG
  have noD : ∀ (i : Nat) (s : Sl) (a : Addr), (wipeG g (own.map (·.2)))[i]? = some s → s.mine = true → (L2.wipe σ (own.map (·.2)))[i]? = some (some (.ref a)) → a ≠ D := fun i s a h1 h2 h3 z => by
    obtain ⟨o, ho, rr⟩ := st2.sl i s h1
    obtain ⟨a', ea, hm⟩ := rr.addr h2
    rw [h3, ea] at ho
    cases ho
    exact st2.nm hD (z ▸ hm)
  have h0D : B.H0 D = none := st.same.free (e1.free hD)
  refine ⟨fun i m H2 => m = n - i ∧ i ≤ n ∧ ∃ acc, H2 D = some (.lst acc) ∧ Reps S (hid (D :: M) H2) acc (resL b dd i) ∧ Same H1 H2 ∧ Stt S (B.more Gh wk.mono) (D :: M) (wipeG g (own.map (·.2))) (L2.wipe σ (own.map (·.2))) H2,
    ⟨n, by simp, Nat.zero_le _, [], upd_same, .nil, s1, st3.more wk.mono hG'⟩, ?_⟩
  rintro i m H2 ⟨rfl, hin, acc, hacc, racc, s12, stt⟩
  by_cases hlt : i < n
  · refine .inr ⟨wk.go (D :: M) i H2 stt.gh.2 hlt, fun H' => ∃ acc, H' D = some (.lst acc) ∧ Reps S (hid (D :: M) H') acc (resL b dd (i + 1)) ∧ Same H1 H' ∧ Stt S (B.more Gh wk.mono) (D :: M) (wipeG g (own.map (·.2))) (L2.wipe σ (own.map (·.2))) H',
      fun H' p => ⟨n - (i + 1), by omega, rfl, hlt, p⟩, fun x H3 hy => ?_⟩
    obtain ⟨e3, r⟩ := wk.yld (D :: M) i H2 x H3 stt.trk stt.gh.2 hlt hy
    refine ⟨i, hlt, _, D :: M, stt.mono e3, r, fun t' st' hw => ⟨hw.trans (wipe_idem _ _), i, hlt, _, D :: M, st', fun H4 e4 => ?_⟩⟩
    cases hbi : b i with
    | false =>
      rw [if_neg Bool.false_ne_true]
      have er : resL b dd (i + 1) = resL b dd i := by
        show (if b i = true then _ else _) = _
        rw [hbi, if_neg Bool.false_ne_true]
      rw [er]
      exact ⟨acc, e4 _ _ (e3 _ _ hacc), racc.mono (hid_same (e3.trans e4)), s12.trans (e3.trans e4), stt.mono (e3.trans e4)⟩
    | true =>
      rw [if_pos rfl]
      have er : resL b dd (i + 1) = resL b dd i ++ [dd i] := by
        show (if b i = true then _ else _) = _
        rw [hbi, if_pos rfl]
      rw [er]
      refine ⟨i, hlt, hbi, _, D :: M, st'.mono e4, fun y H5 e5 ry => ?_⟩
      have e35 := e3.trans (e4.trans e5)
      refine ⟨acc, e35 _ _ hacc, ?_, acc ++ [y], upd_same, ?_, fun a u q => ?_, (stt.mono e35).upHid List.mem_cons_self h0D (e35 _ _ hacc) noD⟩
      · rw [racc.length]
        have := resL_len (b := b) (dd := dd) i
        exact Evl.sz_lt (by omega)
      · rw [hid_upd List.mem_cons_self]
        exact (racc.mono (hid_same e35)).append (.cons ry .nil)
      · rw [upd_ne (ne_of_none q hD)]
        exact e35 _ _ (s12 _ _ q)
  · have e : i = n := by omega
    subst e
    exact .inl ⟨wk.stop (D :: M) i H2 stt.gh.2 (Nat.le_refl _), kk D acc H2 (e1.free hD) (e1.trans s12) hacc racc⟩
theorem n_lc {elt tg iter : Expr} {ifs : List Expr} {scope : Scope} {own : List (Str × Nat)} {n : Nat} {it : Nat → D} (C : Cc X W S k) (hi : XI X S g tg iter n it) (ok : BlkOk X.N X.env.scope scope own) (b : Nat → Bool) (dd : Nat → D) (g2 : Nat → En) (hz : n ≤ 100000)
    (hb : ∀ X' : Cx, InK X' W S k X.N (relabel scope X.env) → ∀ i < n, XGw X' S (own.map (·.2)) (wipeG g (own.map (·.2))) tg (it i) (g2 i) ∧ XTs X' S (g2 i) ifs (b i) ∧ (b i = true → Fw.XE X' S (g2 i) elt (dd i)))
    (hs : ∀ x, foldedSetIterable iter X.env x = pure x := by intro _; rfl) : XN X S g (.ListComp elt [⟨tg, iter, ifs, 0⟩] scope pos) (resL b dd n) := by
  have ink : ∀ (s : Shared) (H : Hp) (c : Addr) (cl : List (Str × Addr)) (fp : List Addr), InK (X.blk s H scope (compEnvC scope cl c X.env) fp) W S k X.N (relabel scope X.env) := fun s H c cl fp =>
    ⟨⟨⟨C.wd, C.K, PassesOwn.never, C.nd⟩, C.calm, C.room⟩, rfl, rfl⟩
  exact peI (pe_lc (g := tgB S g (own.map (·.2)) n it g2) (tt := ttB S n b g2) (te := teB S n b dd g2) C.calm C.nd hi ok (fun s H c cl fp => ⟨fun pins q σ H v u Q I r ⟨i, h, w⟩ => ((hb _ (ink s _ c cl fp) i h).1).run pins q σ H v u Q I r w⟩)
    (fun s H c cl fp => ⟨fun pins q σ H Q I ⟨i, h, w⟩ => ((hb _ (ink s _ c cl fp) i h).2.1).run pins q σ H Q I w⟩) (fun s H c cl fp => ⟨fun pins q σ H Q I ⟨i, h, hbi, w⟩ => ((hb _ (ink s _ c cl fp) i h).2.2 hbi).run pins q σ H Q I w⟩) hs) fun σ H Q ⟨B, M, st, kk⟩ => lc_run b dd g2 hz st kk
/-- name = [..] -/
theorem s_setLc {P : Po} {U : WX} {y : Str} {iy : Nat} {py spos : Pos} {elt tg iter : Expr} {ifs : List Expr} {scope : Scope} {own : List (Str × Nat)} {n : Nat} {it : Nat → D} (C : Cc X W S k) (Ny : Nl X iy y) (hyl : X.env.scope.names.lookup y = some .local) (hi : XI X S g tg iter n it) (ok : BlkOk X.N X.env.scope scope own) (b : Nat → Bool) (dd : Nat → D) (g2 : Nat → En) (hz : n ≤ 100000)
    (hb : ∀ X' : Cx, InK X' W S k X.N (relabel scope X.env) → ∀ i < n, XGw X' S (own.map (·.2)) (wipeG g (own.map (·.2))) tg (it i) (g2 i) ∧ XTs X' S (g2 i) ifs (b i) ∧ (b i = true → Fw.XE X' S (g2 i) elt (dd i)))
    (hP : P.nx (g.set iy (.own (resL b dd n)))) (hsw : swapsWith (.ListComp elt [⟨tg, iter, ifs, 0⟩] scope pos) (some (.Name y py)) spos.line X.env = pure true) (hs : ∀ x, foldedSetIterable iter X.env x = pure x := by intro _; rfl) : XS X S U g (.Assign [.Name y py] (.ListComp elt [⟨tg, iter, ifs, 0⟩] scope pos) spos) P := by
  have ink : ∀ (s : Shared) (H : Hp) (c : Addr) (cl : List (Str × Addr)) (fp : List Addr), InK (X.blk s H scope (compEnvC scope cl c X.env) fp) W S k X.N (relabel scope X.env) := fun s H c cl fp =>
    ⟨⟨⟨C.wd, C.K, PassesOwn.never, C.nd⟩, C.calm, C.room⟩, rfl, rfl⟩
  exact psI (ps_setLc (g := tgB S g (own.map (·.2)) n it g2) (tt := ttB S n b g2) (te := teB S n b dd g2) C.calm C.nd Ny.n hyl hsw hi ok (fun s H c cl fp => ⟨fun pins q σ H v u Q I r ⟨i, h, w⟩ => ((hb _ (ink s _ c cl fp) i h).1).run pins q σ H v u Q I r w⟩)
    (fun s H c cl fp => ⟨fun pins q σ H Q I ⟨i, h, w⟩ => ((hb _ (ink s _ c cl fp) i h).2.1).run pins q σ H Q I w⟩) (fun s H c cl fp => ⟨fun pins q σ H Q I ⟨i, h, hbi, w⟩ => ((hb _ (ink s _ c cl fp) i h).2.2 hbi).run pins q σ H Q I w⟩) hs)
    fun E σ H ⟨B, M, st, c, _⟩ => lc_run b dd g2 hz st fun p vs H' hp e hl r => c.nx _ _ _ H' hP (st.setOwn iy hp e hl r)
end
end Fw

set_option Elab.async false
set_option linter.all false
set_option maxRecDepth 100000
set_option maxHeartbeats 4000000
namespace Fw
open PySem L2

/-! ### lists -/
def cutD (xs : List D) (lo hi : Option Int) : List D := (xs.drop (HT.sIx xs.length 0 lo)).take (HT.sIx xs.length xs.length hi - HT.sIx xs.length 0 lo)
theorem Reps.cut {S : Sg} {H : Hp} {vs : List V} {ds : List D} {lo hi : Option Int} (r : Reps S H vs ds) : Reps S H (cutV vs lo hi) (cutD ds lo hi) := by
  unfold cutV cutD
  rw [r.length]
  exact (r.drop _).take _
theorem Reps.rev {S : Sg} {H : Hp} : ∀ {vs : List V} {ds : List D}, Reps S H vs ds → Reps S H vs.reverse ds.reverse
  | _, _, .nil => .nil
  | _, _, .cons h t => by
    rw [List.reverse_cons, List.reverse_cons]
    exact (Reps.rev t).append (.cons h .nil)
theorem Reps.dropLast {S : Sg} {H : Hp} {vs : List V} {ds : List D} (r : Reps S H vs ds) : Reps S H vs.dropLast ds.dropLast := by
  rw [List.dropLast_eq_take, List.dropLast_eq_take, r.length]
  exact r.take _
section
variable {X : Cx} {W : Wd} {S : Sg} {U : WX} {k : Nat} {g : En} {P : Po} {e a b : Expr} {d : D} {ds es : List D} {x : Str} {i n : Nat} {j lo hi : Int} {pos p p2 apos cpos : Pos} {el eh : Expr}
/-- a slice's parts -/
def XO (X : Cx) (S : Sg) (g : En) (e : Option Expr) (o : Option Int) : Prop := PO X e fun t H Q => ∃ B M, Stt S B M g t H ∧ ∀ H', Same H H' → Q o H'
theorem o_none : XO X S g none none := ⟨fun pins s σ H Q I ⟨B, M, st, kk⟩ => po_none.run pins s σ H Q I (kk H (Same.refl H))⟩
theorem o_some (h : Fw.XE X S g e (.int j)) : XO X S g (some e) (some j) := ⟨fun pins s σ H Q I ⟨B, M, st, kk⟩ => (po_some h).run pins s σ H Q I ⟨B, M, st, fun v H1 e1 r => by
  cases r
  exact ⟨j, rfl, kk H1 e1⟩⟩⟩
theorem new_list {M : List Addr} {H : Hp} {q : Addr} {vs : List V} (hp : H q = none) (r : Reps S (hid M H) vs ds) : Reps S (hid (q :: M) (upd H q (.lst vs))) vs ds := by
  rw [hid_upd List.mem_cons_self]
  exact r.mono (hid_new hp)
/-- xs[lo:hi] -/
theorem n_cut {ol oh : Option Expr} {ll hh : Option Int} (C : Kb X W S) (he : Fw.XE X S g e (.lst ds)) (hl : XO X S g ol ll) (hu : XO X S g oh hh) : XN X S g (.Subscript e (.Slice ol oh none p2) pos) (cutD ds ll hh) :=
  peI (pe_slice sl_list he hl hu) fun σ H Q ⟨B, M, st, kk⟩ => ⟨B, M, st, fun v H1 e1 r => ⟨B, M, st.mono e1, fun H2 e2 => ⟨B, M, st.mono (e1.trans e2), fun H3 e3 => by
    cases r with
    | lst hq rr =>
      have e13 := e2.trans e3
      refine ⟨_, _, rfl, Evl.ex_l e13 (hid_l (by rw [C.kk]; exact hq)), fun q hp => ?_⟩
      exact kk q _ _ ((e1.trans e13).free hp) ((e1.trans e13).trans (same_upd hp)) upd_same (new_list hp (rr.mono (hid_same e13)).cut)⟩⟩⟩
/-- xs[::-1] -/
theorem n_rev {kk2 : Nat} {p3 p4 : Pos} (C : Kb X W S) (he : Fw.XE X S g e (.lst ds)) : XN X S g (.Subscript e (.Slice none none (some (.UnaryOp .USub (.Constant (.int 1) kk2 p) p2)) p3) pos) ds.reverse :=
  peI (pe_revL he) fun σ H Q ⟨B, M, st, kk⟩ => ⟨B, M, st, fun v H1 e1 r => by
    cases r with
    | lst hq rr =>
      refine ⟨_, _, rfl, hid_l (by rw [C.kk]; exact hq), fun q hp => ?_⟩
      exact kk q _ _ (e1.free hp) (e1.trans (same_upd hp)) upd_same (new_list hp rr.rev)⟩
/-- list(xs) -/
theorem n_copy (C : Kb X W S) (he : Fw.XE X S g e (.lst ds)) (G : Ng X "list") (hm : X.mg "list" = none) (h1 : starEach [e] X.env = (false, eval e X.env) :: starEach [] X.env := by rfl) : XN X S g (.Call (.Name "list" p) [e] [] pos) ds :=
  peI (pe_callTy call_list_of G.gl hm PyProof.Rows.Boot.«list» (pa_cons he pa_nil h1) (by decide) G.dbg h1 rfl) fun σ H Q ⟨B, M, st, kk⟩ => ⟨B, M, st, fun v H1 e1 r => by
    cases r with
    | lst hq rr =>
      refine ⟨_, _, rfl, .inl (hid_l (by rw [C.kk]; exact hq)), fun q hp => ?_⟩
      exact kk q _ _ (e1.free hp) (e1.trans (same_upd hp)) upd_same (new_list hp rr)⟩
/-- own.pop() -/
theorem s_pop (C : Kb X W S) (N : Nm X i x) (hi' : g[i]? = some (.own (ds ++ [d]))) (h : P.nx (g.set i (.own ds))) (hline : (apos.endLine == cpos.line) = true := by rfl)
    (hs : swapsWith (.Call (.Attribute (.Name x p) "pop" apos) [] [] cpos) none pos.line X.env = pure false := by rfl) : XS X S U g (.Expr (.Call (.Attribute (.Name x p) "pop" apos) [] [] cpos) pos) P := by
  refine psI (ps_expr (pe_bm0 PySem.F.plainAttrs_list PySem.F.slot_list_pop PySem.F.type_list_pop mt_pop (pe_var N.n N.vis N.dbg N.cdt) rfl hline) hs) fun E σ H ⟨B, M, st, c, _⟩ => ?_
  obtain ⟨l, vs, ht, hm, h0, hl, r⟩ := st.own hi'
  refine ⟨.ref l, ht, .inl ⟨rfl, vs, SqL.of hl⟩, ?_⟩
  have hlen : vs.length = ds.length + 1 := by rw [r.length, List.length_append]; rfl
  have hy : vs[vs.length - 1]? = some (vs[vs.length - 1]'(by omega)) := List.getElem?_eq_getElem _
  refine ⟨l, vs, _, rfl, rfl, hl, hy, ?_⟩
  have r2 := r.dropLast
  rw [List.dropLast_concat] at r2
  exact c.nx _ _ _ _ h (st.upOwn hi' ht hm h0 hl r2)
end
end Fw

set_option Elab.async false
set_option linter.all false
set_option maxRecDepth 100000
set_option maxHeartbeats 4000000
namespace Fw
open PySem L2
section
variable {X : Cx} {W : Wd} {S : Sg} {k : Nat} {g : En} {a b : Expr} {d : D} {ds es : List D} {pos : Pos} {ns : List Int} {m : Int}
/-- new + new -/
theorem n_cat (ha : XN X S g a ds) (hb : XN X S g b es) (hz : ds.length + es.length ≤ 100000) : XN X S g (.BinOp a .Add b pos) (ds ++ es) :=
  peI (pe_op op_cat ha hb) fun σ H Q ⟨B, M, st, kk⟩ => ⟨B, M, st, fun p vs H1 hp e1 hl r => ⟨B, M, st.mono e1, fun q ws H2 hq e2 hl2 r2 => by
    refine ⟨p, q, vs, ws, rfl, rfl, e2 _ _ hl, hl2, by rw [r.length, r2.length]; exact Evl.sz_of hz, fun z hn => ?_⟩
    have e := (e1.trans e2).trans (same_upd (o := .lst (vs ++ ws)) hn)
    refine kk z _ _ ((e1.trans e2).free hn) e upd_same ?_
    have s1 : Same (hid (p :: M) H1) (hid M H1) := hid_sub fun b hb => List.mem_cons_of_mem _ hb
    have s2 : Same (hid (q :: M) H2) (hid M H2) := hid_sub fun b hb => List.mem_cons_of_mem _ hb
    exact new_list hn (((r.mono s1).mono (hid_same e2)).append (r2.mono s2))⟩⟩
theorem lst_of {H : Hp} {v : V} (r : Rep S H v (.lst ds)) : ∃ p vs, v = .ref p ∧ SqL S.K H p vs ∧ Reps S H vs ds := by
  cases r with
  | lst h r => exact ⟨_, _, rfl, h, r⟩
/-- min, max of a list of numbers -/
theorem k_maxL (C : Cc X W S k) (hm : m ∈ ns) (hg : ∀ y ∈ ns, y ≤ m) : CallD X S (.builtin "max") [.lst (ns.map D.int)] (.int m) := by
  rintro pins s σ H xs us Q I r ⟨M, tr, q, K⟩
  obtain ⟨x', e, q1⟩ := q.one
  cases e
  obtain ⟨p, vs, rfl, hq, rr⟩ := lst_of q1
  rw [rr.ints] at hq
  refine cr_max C.calm pins s σ H _ us Q I r ⟨p, ns, rfl, hid_l (by rw [C.kk]; exact hq), List.length_pos_of_mem hm, fun m' h1 h2 => ?_⟩
  have e : m' = m := by
    have a1 := hg m' h1
    have a2 := h2 m hm
    omega
  rw [e]
  exact K _ H (Same.refl H) (.int _)
theorem k_minL (C : Cc X W S k) (hm : m ∈ ns) (hg : ∀ y ∈ ns, m ≤ y) : CallD X S (.builtin "min") [.lst (ns.map D.int)] (.int m) := by
  rintro pins s σ H xs us Q I r ⟨M, tr, q, K⟩
  obtain ⟨x', e, q1⟩ := q.one
  cases e
  obtain ⟨p, vs, rfl, hq, rr⟩ := lst_of q1
  rw [rr.ints] at hq
  refine cr_min C.calm pins s σ H _ us Q I r ⟨p, ns, rfl, hid_l (by rw [C.kk]; exact hq), List.length_pos_of_mem hm, fun m' h1 h2 => ?_⟩
  have e : m' = m := by
    have a1 := hg m' h1
    have a2 := h2 m hm
    omega
  rw [e]
  exact K _ H (Same.refl H) (.int _)
theorem k_sumL (C : Cc X W S k) : CallD X S (.builtin "sum") [.lst (ns.map D.int)] (.int ns.sum) := by
  rintro pins s σ H xs us Q I r ⟨M, tr, q, K⟩
  obtain ⟨x', e, q1⟩ := q.one
  cases e
  obtain ⟨p, vs, rfl, hq, rr⟩ := lst_of q1
  rw [rr.ints] at hq
  exact cr_sum C.calm pins s σ H _ us Q I r ⟨p, ns, rfl, hid_l (by rw [C.kk]; exact hq), K _ H (Same.refl H) (.int _)⟩
theorem Reps.bls {H : Hp} : ∀ {bs : List Bool} {vs : List V}, Reps S H vs (bs.map D.bl) → vs = bs.map V.bl
  | [], _, .nil => rfl
  | n :: ns, _, .cons (.bl _) t => by rw [Reps.bls t]; rfl
theorem k_any (C : Cc X W S k) {bs : List Bool} : CallD X S (.builtin "any") [.lst (bs.map D.bl)] (.bl (bs.any id)) := by
  rintro pins s σ H xs us Q I r ⟨M, tr, q, K⟩
  obtain ⟨x', e, q1⟩ := q.one
  cases e
  obtain ⟨p, vs, rfl, hq, rr⟩ := lst_of q1
  rw [rr.bls] at hq
  exact cr_any C.calm pins s σ H _ us Q I r ⟨p, bs, rfl, hid_l (by rw [C.kk]; exact hq), K _ H (Same.refl H) (.bl _)⟩
theorem k_all (C : Cc X W S k) {bs : List Bool} : CallD X S (.builtin "all") [.lst (bs.map D.bl)] (.bl (bs.all id)) := by
  rintro pins s σ H xs us Q I r ⟨M, tr, q, K⟩
  obtain ⟨x', e, q1⟩ := q.one
  cases e
  obtain ⟨p, vs, rfl, hq, rr⟩ := lst_of q1
  rw [rr.bls] at hq
  exact cr_all C.calm pins s σ H _ us Q I r ⟨p, bs, rfl, hid_l (by rw [C.kk]; exact hq), K _ H (Same.refl H) (.bl _)⟩
end
end Fw

set_option Elab.async false
set_option linter.all false
set_option maxRecDepth 100000
set_option maxHeartbeats 4000000
namespace L2
open PySem PySem.Spec PyProof.Rows
/-- the first two of a tuple's numbers -/
def fwKey (l : List Int) : Int × Int := (l.getD 0 0, l.getD 1 0)
section
variable {P : Program} {w : World} {A : Around} {E : Value → Shared → Prop} {s : Shared}
theorem fw_pair {h : Heap} {v : Value} {ns : List Int} (x : TS.TupInts h v ns) (hl : ns.length = 2) : Srt.IsPair h v (fwKey ns).1 (fwKey ns).2 := by
  obtain ⟨a, xs, e, ⟨o, ho, hc, n, hd⟩, i⟩ := x
  match ns, hl with
  | [p, q], _ =>
    cases hx : xs.toList with
    | nil => rw [hx] at i; cases i
    | cons u r =>
      rw [hx] at i
      cases i with
      | cons n1 t1 i =>
        cases i with
        | cons n2 t2 i =>
          cases i
          refine ⟨a, o, t1, t2, n, e, ho, hc, ?_⟩
          have : xs = #[.int p t1, .int q t2] := by
            apply Array.ext'
            rw [hx]
          rw [hd, this] <;> rfl
/-- sorted(set) of pairs of any numbers -/
theorem fw_sortset {a : Addr} {L : List (Addr × List Int)} {es : Array (Int × Value)} {ep : Nat} {t : SetTable} {Q : Value → Shared → Prop} (R : SetTR P w s.heap a L es ep t) (hh : A.handled = none) (h2 : ∀ p ∈ L, p.2.length = 2)
    (hQ : ∀ s' p (out : Array Value) (c : Nat) (L' : List (Addr × List Int)), (∀ b o, s.heap.get? b = some o → s'.heap.get? b = some o) → s'.gens = s.gens → s'.os = s.os → s.heap.objs.size ≤ p → s'.heap.get? p = some (seqObj "list" out c) →
      out.toList = L'.map (fun q => Value.ref q.1) → L'.Perm L → L'.Pairwise (fun q r => SrtO.lexB (fwKey r.2) (fwKey q.2) = false) → Q (.ref p) s') : wpAny (model P w) A (call (.builtin "sorted") [.ref a]) Q E s := by
  obtain ⟨o, ho, hex, hd⟩ := R.ob
  have hsz := R.size
  have few := R.few
  refine Calls.call_function_entry kind_sorted plain_sorted entry_sorted (args_sorted1 _) ?_
  unfold Builtin.«sorted»; refine wpAny_bind (m := checkCount "sorted" 1 1 _) (wpAny_pure ?_)
  refine wpAny_bind (collect_set (A := A.in1) hh ⟨o, ho, hex.1, hd⟩ R.fits (by unfold scanBound; omega) R.tab.ris R.led fun s1 vs k1 hz g1 o1 pm => ?_)
  have he : es.toList.map (·.2) = L.map fun q => Value.ref q.1 := by
    rw [R.rows]; unfold rowsOf; rw [List.map_map] <;> rfl
  rw [he] at pm
  have back : ∀ us : List Value, (∀ v ∈ us, ∃ q ∈ L, v = Value.ref q.1) → ∃ L1 : List (Addr × List Int), us = L1.map (fun q => Value.ref q.1) ∧ ∀ q ∈ L1, q ∈ L := fun us => by
    induction us with
    | nil => exact fun _ => ⟨[], rfl, fun q hq => nomatch hq⟩
    | cons v us ih =>
      intro hv
      obtain ⟨q, hq, e⟩ := hv v List.mem_cons_self
      obtain ⟨L1, e1, hs⟩ := ih fun u hu => hv u (List.mem_cons_of_mem _ hu)
      exact ⟨q :: L1, by rw [List.map_cons, e, e1], fun r hr => (List.mem_cons.mp hr).elim (fun z => z ▸ hq) (hs r)⟩
  have one : ∀ q ∈ L, ∀ r ∈ L, q.1 = r.1 → q = r := fun q hq r hr e => by
    have a1 := R.tup q hq; have a2 := R.tup r hr
    rw [e] at a1; exact Prod.ext e (a1.inj a2)
  have len : vs.length < 64 := by rw [pm.length_eq, List.length_map]; exact few
  refine wpAny_bind (wpAny_newList ?_ (by rw [sizeLine_eq]; omega))
  have hl : (s1.heap.push (seqObj "list" vs.toArray 0)).get? s1.heap.objs.size = some (seqObj "list" vs.toArray 0) := Heap.get?_push_size _ rfl
  have tk : ∀ q ∈ L, TS.TupInts (s1.heap.push (seqObj "list" vs.toArray 0)) (.ref q.1) q.2 := fun q hq => tupInts_of (P := P) (w := w) (isT_keep (R.tup q hq) fun b u e => Heap.get?_push_of_some _ (k1 b u e))
  have pr : ∀ v ∈ vs, Srt.IsPair (s1.heap.push (seqObj "list" vs.toArray 0)) v (fwKey (TS.intsOf (s1.heap.push (seqObj "list" vs.toArray 0)) v)).1 (fwKey (TS.intsOf (s1.heap.push (seqObj "list" vs.toArray 0)) v)).2 := fun v hv => by
    obtain ⟨q, hq, e⟩ := List.mem_map.mp (pm.mem_iff.mp hv)
    rw [← e, (tk q hq).ints]
    exact fw_pair (tk q hq) (h2 q hq)
  refine wpAny_bind (wpAny_holding (wpAny_call_entry slot_list_sort ⟨_, hl, rfl⟩ entry_list_sort (SrtO.list_sort_ord (s := { s1 with heap := s1.heap.push (seqObj "list" vs.toArray 0) }) (SrtO.swo_lex fun v => fwKey (TS.intsOf (s1.heap.push (seqObj "list" vs.toArray 0)) v)) hl (by rw [sizeLine_eq]; omega)
    (fun h3 => SrtO.pairs_sortableO (s := { s1 with heap := s1.heap.push (seqObj "list" vs.toArray 0) }) (by omega) pr fun o e => ?_) fun out hs hb => ⟨_, rfl, ?_⟩) (args_list_sort _)))
  · have e' : some o = some (seqObj "list" vs.toArray 0) := e.symm.trans hl
    cases e'
    exact fun c => absurd (Value.type.inj c) (by decide)
  · obtain ⟨c, hc⟩ := sortedHeap_at (vs := vs) (out := out.toArray) hl
    obtain ⟨L', e', hs'⟩ := back out fun v hv => by
      obtain ⟨q, hq, e⟩ := List.mem_map.mp (pm.mem_iff.mp (hb.perm.mem_iff.mp hv))
      exact ⟨q, hq, e.symm⟩
    have nL : L.Nodup := nodup_of_map R.nd
    have nref : (L.map fun q => Value.ref q.1).Nodup := by
      refine List.pairwise_map.mpr (List.Pairwise.imp_of_mem (fun {q r} hq hr hne e => hne (one q hq r hr (Value.ref.inj e))) nL)
    have pL0 : (L'.map (fun q => Value.ref q.1)).Perm (L.map fun q => Value.ref q.1) := by rw [← e']; exact hb.perm.trans pm
    have n1 : L'.Nodup := nodup_of_map (pL0.nodup_iff.mpr nref)
    have pL : L'.Perm L := (List.perm_ext_iff_of_nodup n1 nL).mpr fun q => ⟨hs' q, fun hq => by
      obtain ⟨r, hr, e⟩ := List.mem_map.mp (pL0.mem_iff.mpr (List.mem_map.mpr ⟨q, hq, rfl⟩))
      rw [← one r (hs' r hr) q hq (Value.ref.inj e)]
      exact hr⟩
    have pw : L'.Pairwise (fun q r => SrtO.lexB (fwKey r.2) (fwKey q.2) = false) := by
      have hs2 := hs
      rw [e'] at hs2
      refine List.Pairwise.imp_of_mem (fun {q r} hq hr hle => ?_) (List.pairwise_map.mp hs2)
      rw [← (tk q (hs' q hq)).ints, ← (tk r (hs' r hr)).ints]
      exact hle
    refine wpAny_pure ⟨_, rfl, hQ _ s1.heap.objs.size out.toArray c L' (fun b u e => ?_) g1 o1 hz hc (by simpa using e') pL pw⟩
    have q := k1 b u e
    have hlt := Heap.lt_size q
    show (sortedHeap (s1.heap.push (seqObj "list" vs.toArray 0)) s1.heap.objs.size vs out.toArray).get? b = some u
    rw [sortedHeap_old (Nat.ne_of_lt hlt) (by rw [size_push']; exact Nat.lt_succ_of_lt hlt)]
    exact Heap.get?_push_of_some _ q
end
end L2

set_option Elab.async false
set_option linter.all false
set_option maxRecDepth 100000
set_option maxHeartbeats 4000000
namespace Fw
open PySem L2 PySem.Spec PyProof.Rows

/-! ### pairs in order -/
abbrev PI2 := Int × Int
abbrev pairD (p : PI2) : D := .tup [.int p.1, .int p.2]
def plt (p q : PI2) : Prop := p.1 < q.1 ∨ (p.1 = q.1 ∧ p.2 < q.2)
instance (p q : PI2) : Decidable (plt p q) := by unfold plt; infer_instance
def insU (x : PI2) : List PI2 → List PI2
  | [] => [x]
  | y :: l => if plt x y then x :: y :: l else if plt y x then y :: insU x l else y :: l
/-- sorted(set(..)) -/
def sortU : List PI2 → List PI2
  | [] => []
  | x :: l => insU x (sortU l)
theorem plt_tr {p q r : PI2} (h : plt p q) (k : plt q r) : plt p r := by unfold plt at *; omega
theorem plt_ir {p : PI2} : ¬ plt p p := by unfold plt; omega
theorem plt_eq {p q : PI2} (h : ¬ plt p q) (k : ¬ plt q p) : p = q := by
  unfold plt at *
  exact Prod.ext (by omega) (by omega)
theorem insU_mem {x z : PI2} : ∀ {l : List PI2}, z ∈ insU x l ↔ z = x ∨ z ∈ l
  | [] => by unfold insU; simp
  | y :: l => by
    unfold insU
    split
    · simp
    · split
      · rw [List.mem_cons, insU_mem (l := l), List.mem_cons]
        constructor
        · rintro (h | h | h)
          · exact .inr (.inl h)
          · exact .inl h
          · exact .inr (.inr h)
        · rintro (h | h | h)
          · exact .inr (.inl h)
          · exact .inl h
          · exact .inr (.inr h)
      · rename_i h1 h2
        have e := plt_eq h1 h2
        subst e
        simp
theorem insU_srt {x : PI2} : ∀ {l : List PI2}, l.Pairwise plt → (insU x l).Pairwise plt
  | [], _ => List.pairwise_singleton _ _
  | y :: l, h => by
    obtain ⟨h1, h2⟩ := List.pairwise_cons.mp h
    unfold insU
    split
    · rename_i k
      exact List.pairwise_cons.mpr ⟨fun z hz => (List.mem_cons.mp hz).elim (fun e => e ▸ k) fun hz => plt_tr k (h1 z hz), h⟩
    · split
      · rename_i k
        exact List.pairwise_cons.mpr ⟨fun z hz => (insU_mem.mp hz).elim (fun e => e ▸ k) (h1 z), insU_srt h2⟩
      · exact h
theorem sortU_mem {z : PI2} : ∀ {l : List PI2}, z ∈ sortU l ↔ z ∈ l
  | [] => Iff.rfl
  | x :: l => by
    unfold sortU
    rw [insU_mem, sortU_mem (l := l), List.mem_cons]
theorem sortU_srt : ∀ {l : List PI2}, (sortU l).Pairwise plt
  | [] => .nil
  | x :: l => insU_srt sortU_srt
theorem srt_uniq : ∀ {l m : List PI2}, l.Pairwise plt → m.Pairwise plt → (∀ z, z ∈ l ↔ z ∈ m) → l = m
  | [], [], _, _, _ => rfl
  | [], y :: m, _, _, h => by have := (h y).mpr List.mem_cons_self; cases this
  | x :: l, [], _, _, h => by have := (h x).mp List.mem_cons_self; cases this
  | x :: l, y :: m, h1, h2, h => by
    obtain ⟨a1, a2⟩ := List.pairwise_cons.mp h1
    obtain ⟨b1, b2⟩ := List.pairwise_cons.mp h2
    have e : x = y := by
      rcases List.mem_cons.mp ((h x).mp List.mem_cons_self) with z | z
      · exact z
      · rcases List.mem_cons.mp ((h y).mpr List.mem_cons_self) with w | w
        · exact w.symm
        · exact absurd (plt_tr (a1 y w) (b1 x z)) plt_ir
    subst e
    congr 1
    refine srt_uniq a2 b2 fun z => ⟨fun hz => ?_, fun hz => ?_⟩
    · rcases List.mem_cons.mp ((h z).mp (List.mem_cons_of_mem _ hz)) with w | w
      · exact absurd (w ▸ a1 z hz) plt_ir
      · exact w
    · rcases List.mem_cons.mp ((h z).mpr (List.mem_cons_of_mem _ hz)) with w | w
      · exact absurd (w ▸ b1 z hz) plt_ir
      · exact w
theorem sortU_len {l : List PI2} : (sortU l).length ≤ l.length := by
  induction l with
  | nil => exact Nat.le_refl _
  | cons x l ih =>
    have : ∀ m : List PI2, (insU x m).length ≤ m.length + 1 := fun m => by
      induction m with
      | nil => exact Nat.le_refl _
      | cons y m ih =>
        unfold insU
        split
        · simp
        · split
          · simp only [List.length_cons]; omega
          · simp
    have := this (sortU l)
    simp only [sortU, List.length_cons]
    omega

/-! ### sorted(set(xs)) -/
def rSortP (K : PySem.W.Frag) (P : Program) (w : World) : List V → Hp → VK → Prop := fun vs H Q => ∃ (a : Addr) (L : List (Addr × List Int)), vs = [V.ref a] ∧ H a = some (SetTO P w a L) ∧ (∀ p ∈ L, SqT K H p.1 (p.2.map V.int)) ∧ (∀ p ∈ L, p.2.length = 2) ∧
  ∀ (L' : List (Addr × List Int)) (p : Addr), L'.Perm L → (L'.map (·.2)).Nodup → L'.Pairwise (fun q r => SrtO.lexB (fwKey r.2) (fwKey q.2) = false) → H p = none → Q (.ref p) (upd H p (.lst (L'.map fun q => V.ref q.1)))
theorem cr_sortP {X : Cx} (hc : X.calm = true) : CallR X (.builtin "sorted") (rSortP X.K X.prog X.w) := by
  intro pins s σ H vs us Q I r h
  obtain ⟨a, L, rfl, ha, hk, h2, q⟩ := h
  have R0 : SetT0 X.prog X.w s.heap a L := (I.hok a _ ha).1
  obtain ⟨es, ep, t, R⟩ := R0.full fun p hp => I.isT (hk p hp)
  rw [Vals.ref1 r]
  refine fw_sortset R (I.ok.hd hc) h2 fun s' p out c L' k g o hp hg hout pm pw => ?_
  have few : L'.length < 64 := by rw [pm.length_eq]; exact R.few
  have hlen : (L'.map fun q => V.ref q.1).length ≤ sizeLine := by rw [List.length_map, sizeLine_eq]; omega
  have hn : H p = none := I.hok.fresh hp
  have hv : Vals (L'.map fun q => V.ref q.1) out.toList := by rw [hout]; exact vals_of_refs L'
  have J : L2.Inv X pins σ (upd H p (.lst (L'.map fun q => V.ref q.1))) { s with heap := s'.heap, gens := s'.gens, drawn := s'.drawn, toks := s'.toks } :=
    I.call (ch := []) (Un.laid k hp hn) (I.hok.laid k hp ⟨hlen, out.toList, c, hv, hg⟩) (by rw [g]; exact I.bare) (fun _ z => nomatch z)
  have e : s' = { s with heap := s'.heap, gens := s'.gens, drawn := s'.drawn, toks := s'.toks } := by
    cases s'; cases s; cases o; rfl
  rw [e]
  exact ⟨.ref p, _, J, rfl, q L' p pm ((pm.map (·.2)).nodup_iff.mpr R.nd) pw hn⟩
theorem reps_pairs {S : Sg} {H : Hp} : ∀ {vs : List V} {ps : List PI2}, Reps S H vs (ps.map pairD) → ∃ ks : List (Addr × List Int), vs = ks.map (fun p => V.ref p.1) ∧ ks.map (·.2) = ps.map (fun p => [p.1, p.2]) ∧ ∀ p ∈ ks, SqT S.K H p.1 (p.2.map V.int)
  | _, [], .nil => ⟨[], rfl, rfl, fun p h => nomatch h⟩
  | v :: vs, p :: ps, .cons h t => by
    obtain ⟨ks, e1, e2, e3⟩ := reps_pairs t
    unfold pairD at h
    cases h with
    | @tup a ws ds hq rr =>
      obtain ⟨x, y, rfl, q1, q2⟩ := rr.two
      cases q1
      cases q2
      exact ⟨(a, [p.1, p.2]) :: ks, by rw [List.map_cons, e1], by rw [List.map_cons, e2, List.map_cons], fun r hr => (List.mem_cons.mp hr).elim (fun z => by rw [z]; exact hq) (e3 r)⟩
theorem pairs_reps {S : Sg} {H : Hp} : ∀ {ks : List (Addr × List Int)} {ps : List PI2}, ks.map (·.2) = ps.map (fun p => [p.1, p.2]) → (∀ p ∈ ks, SqT S.K H p.1 (p.2.map V.int)) → Reps S H (ks.map fun p => V.ref p.1) (ps.map pairD)
  | [], [], _, _ => .nil
  | [], _ :: _, e, _ => nomatch e
  | _ :: _, [], e, _ => nomatch e
  | k :: ks, p :: ps, e, h => by
    rw [List.map_cons, List.map_cons] at e
    injection e with e1 e2
    refine .cons (.tup (by have := h k List.mem_cons_self; rw [e1] at this; exact this) (.cons (.int _) (.cons (.int _) .nil))) (pairs_reps e2 fun q hq => h q (List.mem_cons_of_mem _ hq))
section
variable {X : Cx} {W : Wd} {S : Sg} {k : Nat} {g : En} {e : Expr} {ps : List PI2} {pos p1 p2 pos2 : Pos}
theorem n_sortset (C : Cc X W S k) (he : Fw.XE X S g e (.lst (ps.map pairD))) (Gs : Ng X "sorted") (ms : X.mg "sorted" = none) (Gt : Ng X "set") (mt : X.mg "set" = none) (hl : ps.length < 64)
    (h1 : starEach [e] X.env = (false, eval e X.env) :: starEach [] X.env := by rfl) (h2 : starEach [.Call (.Name "set" p2) [e] [] pos2] X.env = (false, eval (.Call (.Name "set" p2) [e] [] pos2) X.env) :: starEach [] X.env := by rfl) :
    XN X S g (.Call (.Name "sorted" p1) [.Call (.Name "set" p2) [e] [] pos2] [] pos) ((sortU ps).map pairD) :=
  peI (pe_callB (cr_sortP C.calm) Gs.gl ms PyProof.Rows.Boot.«sorted» (pa_cons (pe_callTy (cr_setOfT C.calm C.hu) Gt.gl mt PyProof.Rows.Boot.«set» (pa_cons he pa_nil h1) (by decide) Gt.dbg h1 rfl) pa_nil h2) (by decide) Gs.dbg h2 rfl) fun σ H Q ⟨B, M, st, kk⟩ => ⟨B, M, st, fun v H1 e1 r => by
    obtain ⟨l, vs, rfl, hq, rr⟩ := lst_of r
    obtain ⟨ks, rfl, e2, e3⟩ := reps_pairs rr
    have kl : ks.length < 64 := by
      have := congrArg List.length e2
      rw [List.length_map, List.length_map] at this
      omega
    refine ⟨l, ks, rfl, hid_l (by rw [C.kk]; exact hq), fun p hp => hid_t (by rw [C.kk]; exact e3 p hp), kl, fun a L ha hsub hall => ?_⟩
    have s1 : Same H1 (upd H1 a (SetTO X.prog X.w a L)) := same_upd ha
    have two : ∀ p ∈ ks, p.2.length = 2 := fun p hp => by
      have : p.2 ∈ ps.map (fun p => [p.1, p.2]) := by rw [← e2]; exact List.mem_map.mpr ⟨p, hp, rfl⟩
      obtain ⟨q, _, e⟩ := List.mem_map.mp this
      rw [← e] <;> rfl
    refine ⟨a, L, rfl, upd_same, fun p hp => Evl.ex_t s1 (hid_t (by rw [C.kk]; exact e3 p (hsub p hp))), fun p hp => two p (hsub p hp), fun L' p pm nd pw hp => ?_⟩
    -- the rows are the sorted pairs
    have hL' : ∀ q ∈ L', q ∈ ks := fun q hq => hsub q (pm.mem_iff.mp hq)
    have key : L'.map (·.2) = (sortU ps).map (fun p => [p.1, p.2]) := by
      have f : ∀ q ∈ L', q.2 = [(fwKey q.2).1, (fwKey q.2).2] := fun q hq => by
        have := two q (hL' q hq)
        match h : q.2, this with
        | [x, y], _ => rfl
      have g1 : L'.map (·.2) = (L'.map fun q => fwKey q.2).map (fun p => [p.1, p.2]) := by
        rw [List.map_map]
        exact List.map_congr_left fun q hq => f q hq
      rw [g1]
      congr 1
      have inj : ∀ q ∈ L', ∀ r ∈ L', fwKey q.2 = fwKey r.2 → q.2 = r.2 := fun q hq r hr e => by rw [f q hq, f r hr, e]
      refine srt_uniq (List.pairwise_map.mpr (List.Pairwise.imp_of_mem (fun {q r} hq hr hle => ?_) (pw.and (List.pairwise_map.mp nd)))) sortU_srt fun z => ?_
      · obtain ⟨h3, h4⟩ := hle
        have h5 := SrtO.lexB_no.mp h3
        have h6 : fwKey q.2 ≠ fwKey r.2 := fun e => h4 (inj q hq r hr e)
        by_cases h7 : plt (fwKey q.2) (fwKey r.2)
        · exact h7
        · exact absurd (plt_eq h7 h5) h6
      · rw [sortU_mem, List.mem_map]
        constructor
        · rintro ⟨q, hq, rfl⟩
          have : q.2 ∈ ps.map (fun p => [p.1, p.2]) := by rw [← e2]; exact List.mem_map.mpr ⟨q, hL' q hq, rfl⟩
          obtain ⟨p', hp', e⟩ := List.mem_map.mp this
          rw [← e]
          exact hp'
        · intro hz
          have : [z.1, z.2] ∈ ks.map (·.2) := by rw [e2]; exact List.mem_map.mpr ⟨z, hz, rfl⟩
          obtain ⟨q, hq, e⟩ := List.mem_map.mp this
          obtain ⟨q', hq', e'⟩ := List.mem_map.mp (hall q hq)
          refine ⟨q', pm.mem_iff.mpr hq', ?_⟩
          rw [e', e]
          rfl
    have s2 := s1.trans (same_upd (o := .lst (L'.map fun q => V.ref q.1)) hp)
    refine kk p _ _ ((e1.trans s1).free hp) (e1.trans s2) upd_same (new_list hp ?_)
    exact pairs_reps key fun q hq => Evl.ex_t (hid_same s1) (e3 q (hL' q hq))⟩
end
end Fw

set_option Elab.async false
set_option linter.all false
set_option maxRecDepth 100000
set_option maxHeartbeats 4000000
namespace Fw
open PySem L2

/-! ### instances with a dict -/
def putD (f : Str) (d : D) : List (Str × D) → List (Str × D)
  | [] => [(f, d)]
  | (g, x) :: r => if g = f then (g, d) :: r else (g, x) :: putD f d r
section
variable {S : Sg} {H : Hp} {f : Str} {d : D} {v : V}
theorem RepF.lookN : ∀ {ws : List (Str × V)} {fs : List (Str × D)}, RepF S H ws fs → fs.lookup f = Option.none → ws.lookup f = Option.none
  | _, _, .nil, _ => rfl
  | _, _, .cons (f := f') (v := w) (d := e) r t, h => by
    rw [List.lookup_cons] at h ⊢
    cases hb : (f == f') with
    | true =>
      rw [hb] at h
      cases h
    | false =>
      rw [hb] at h
      exact RepF.lookN t h
theorem RepF.length : ∀ {ws : List (Str × V)} {fs : List (Str × D)}, RepF S H ws fs → ws.length = fs.length
  | _, _, .nil => rfl
  | _, _, .cons _ t => congrArg Nat.succ (RepF.length t)
theorem RepF.put (h : Rep S H v d) : ∀ {ws : List (Str × V)} {fs : List (Str × D)}, RepF S H ws fs → RepF S H (putF f v ws) (putD f d fs)
  | _, _, .nil => .cons h .nil
  | _, _, .cons (f := f') r t => by
    unfold putF putD
    by_cases e : f' = f
    · rw [if_pos e, if_pos e]
      exact .cons h t
    · rw [if_neg e, if_neg e]
      exact .cons r (RepF.put h t)
end
/-- a class of the program whose instances have a dict -/
structure ObC (W : Wd) (S : Sg) (c : Nat) (x : Str) (fns : List Str) : Prop where
  gC : W.mg x = some (.ref (S.cO c))
  cls : Cls W.K (S.cO c)
  isi : Isi W.K (S.cO c)
  nof : ∀ f ∈ fns, NoAttr W.K (S.cO c) f
structure MethC (W : Wd) (S : Sg) (c : Nat) (m : Str) (k n : Nat) (dd : List D) (R : List D → Out → Prop) : Prop where
  ex : ∃ q, Meth W.K (S.cO c) m q ∧ FnM W S k q n dd R
structure PropO (W : Wd) (S : Sg) (c : Nat) (f : Str) (k : Nat) (R : List D → Out → Prop) : Prop where
  ex : ∃ p q, PropOf W.K (S.cO c) f p q ∧ FnM W S k q 1 [] R
structure CallC (W : Wd) (S : Sg) (c : Nat) (k n : Nat) (R : List D → Out → Prop) : Prop where
  ex : ∃ q, StX.CallO W.K (S.cO c) q ∧ FnM W S k q n [] R
section
variable {X : Cx} {W : Wd} {S : Sg} {U : WX} {k j : Nat} {g : En} {P : Po} {e fe o : Expr} {es : List Expr} {d da db : D} {ds dd : List D} {fs : List (Str × D)} {x y f m : Str} {fns : List Str} {i n c : Nat} {pos p p2 apos : Pos} {q : Addr} {R : List D → Out → Prop} {ou : Out}
theorem e_fld (C : Kb X W S) (OC : ObC W S c x fns) (he : Fw.XE X S g e (.obj c fs)) (hm : f ∈ fns) (hl : fs.lookup f = some d) (hb : attributeBase e f X.env (eval e X.env) = eval e X.env := by rfl) : Fw.XE X S g (.Attribute e f pos) d :=
  peI (pe_fld he hb) fun σ H Q ⟨B, M, st, kk⟩ => ⟨B, M, st, fun v H1 e1 r => by
    cases r with
    | obj h rr =>
      obtain ⟨w, hw, rw'⟩ := rr.look hl
      exact ⟨_, _, _, _, w, rfl, (hid_some h).2, by rw [C.kw]; exact OC.cls, by rw [C.kw]; exact OC.nof f hm, hw, kk w H1 e1 rw'⟩⟩
/-- of an object in the making -/
theorem e_fldS {a dx : Addr} (C : Kb X W S) (OC : ObC W S c x fns) (N : Nm X i y) (hi : g[i]? = some (.ob a dx c fs)) (hm : f ∈ fns) (hl : fs.lookup f = some d) (hb : attributeBase (.Name y p) f X.env (eval (.Name y p) X.env) = eval (.Name y p) X.env := by rfl) : Fw.XE X S g (.Attribute (.Name y p) f pos) d :=
  peI (pe_fld (pe_var N.n N.vis N.dbg N.cdt) hb) fun σ H Q ⟨B, M, st, kk⟩ => by
    obtain ⟨o, ho, e1, hm', h0, ws, hl', r⟩ := st.sl i _ hi
    obtain ⟨w, hw, rw'⟩ := r.look hl
    exact ⟨.ref a, by rw [ho, e1], a, _, dx, ws, w, rfl, hl', by rw [C.kw]; exact OC.cls, by rw [C.kw]; exact OC.nof f hm, hw, kk w H (Same.refl H) rw'⟩
/-- self.f = e -/
theorem s_fld {a dx : Addr} {pos' : Pos} (C : Kb X W S) (OC : ObC W S c x fns) (N : Nm X i y) (hi : g[i]? = some (.ob a dx c fs)) (he : Fw.XE X S g e d) (hm : f ∈ fns) (hz : fs.length < 1000) (h : P.nx (g.set i (.ob a dx c (putD f d fs))))
    (hs : swapsWith e (some (.Attribute (.Name y p) f pos')) pos.line X.env = pure false := by rfl) : XS X S U g (.Assign [.Attribute (.Name y p) f pos'] e pos) P :=
  psI (ps_fld (pe_var N.n N.vis N.dbg N.cdt) he hs) fun E σ H ⟨B, M, st, ct, _⟩ => ⟨B, M, st, fun w H1 e1 r => by
    have st1 := st.mono e1
    obtain ⟨o, ho, ee, hm', h0, ws, hl', rr⟩ := st1.sl i _ hi
    refine ⟨.ref a, by rw [ho, ee], a, _, dx, ws, rfl, hl', by rw [C.kw]; exact OC.cls, by rw [C.kw]; exact OC.nof f hm, by rw [rr.length]; exact hz, ?_⟩
    exact ct.nx _ _ _ _ h (st1.upOb hi (rr.put r))⟩
/-- o.m(..) -/
theorem q_meth {pl : Sem Bool} (C : Cc X W S k) (tk : L2N.Takes X U) (OC : ObC W S c x fns) (F : MethC W S c m j n dd R) (he : Fw.XE X S g o (.obj c fs)) (hl : fs.lookup m = none) (ha : XA X S g (e :: es) ds) (hR : R (.obj c fs :: (ds ++ dd)) ou) (hn : ds.length + 1 = n := by rfl) (hj : j ≤ k := by decide)
    (hst : starEach (e :: es) X.env = (false, eval e X.env) :: starEach es X.env := by rfl) (hpl : (backTo pos (starEach es X.env)).any (·.1) = false := by rfl)
    (ht : eval (.Call (.Attribute o m apos) (e :: es) [] pos) X.env = (do
      let ov ← eval o X.env
      standAt apos.atName
      let (f, first) ← holding [ov] (getMethod ov m pl)
      callWith pos f first (backTo pos (starEach (e :: es) X.env)) (backToKw pos (keywordEach [] X.env))) := by rfl) : XQ X S U g (.Call (.Attribute o m apos) (e :: es) [] pos) ou := by
  obtain ⟨q, hq, F⟩ := F.ex
  have hcl := OC.cls
  rw [← C.kw] at hcl hq
  refine ⟨fun pins s σ H Q I w => ?_⟩
  obtain ⟨B, M, st, kk⟩ := w
  refine PySem.W.methodCall_KW (pl := pl) (thn (he.run pins s σ H (fun v H1 => Same H H1 ∧ Rep S (hid M H1) v (.obj c fs)) I ⟨B, M, st, fun v H1 e1 r => ⟨e1, r⟩⟩) fun u s1 ⟨v, H1, I1, rx, e1, r⟩ => ?_) ht
  have r0 := r
  cases r with
  | obj h rr =>
    rename_i a dx ws
    obtain rfl : u = Value.ref a := rx
    refine getmeth_ok I1 (hid_some h).2 hcl hq (rr.lookN hl) ?_
    refine PySem.W.callWith_K (first := [.ref a]) (h₀ := X.base) I.ok.mod.kin hq.kp (thn (ha.run pos pins s1 σ H1 (fun vs H2 => Same H1 H2 ∧ Reps S (hid M H2) vs ds) I1 ⟨B, M, st.mono e1, fun vs H2 e2 r2 => ⟨e2, r2⟩⟩) fun us s2 ⟨vs, H2, I2, r2, e2, rs⟩ => ⟨I2.kIn, ?_⟩) hst hpl
    exact run_MQ (vs := .ref a :: vs) (us := .ref a :: us) C tk F hj I2 (.cons rfl r2) (st.mono (e1.trans e2)).trk (.cons (r0.mono (hid_same e2)) rs) hn (by exact hR) (outk_mono (e1.trans e2) kk)
theorem e_meth {pl : Sem Bool} (C : Cc X W S k) (OC : ObC W S c x fns) (F : MethC W S c m j n dd R) (he : Fw.XE X S g o (.obj c fs)) (hl : fs.lookup m = none) (ha : XA X S g (e :: es) ds) (hR : R (.obj c fs :: (ds ++ dd)) (.ok d)) (hn : ds.length + 1 = n := by rfl) (hj : j ≤ k := by decide)
    (hst : starEach (e :: es) X.env = (false, eval e X.env) :: starEach es X.env := by rfl) (hpl : (backTo pos (starEach es X.env)).any (·.1) = false := by rfl)
    (ht : eval (.Call (.Attribute o m apos) (e :: es) [] pos) X.env = (do
      let ov ← eval o X.env
      standAt apos.atName
      let (f, first) ← holding [ov] (getMethod ov m pl)
      callWith pos f first (backTo pos (starEach (e :: es) X.env)) (backToKw pos (keywordEach [] X.env))) := by rfl) : Fw.XE X S g (.Call (.Attribute o m apos) (e :: es) [] pos) d :=
  q_meth C takes0 OC F he hl ha hR hn hj hst hpl ht
/-- o(..) -/
theorem q_callO (C : Cc X W S k) (tk : L2N.Takes X U) (F : CallC W S c j n R) (hf : Fw.XE X S g fe (.obj c fs)) (ha : XA X S g (e :: es) ds) (hR : R (.obj c fs :: ds) ou) (hn : ds.length + 1 = n := by rfl) (hj : j ≤ k := by decide)
    (ht : eval (.Call fe (e :: es) [] pos) X.env = (do callWith pos (← eval fe X.env) [] (backTo pos (starEach (e :: es) X.env)) (backToKw pos (keywordEach [] X.env))) := by rfl)
    (hst : starEach (e :: es) X.env = (false, eval e X.env) :: starEach es X.env := by rfl) (hpl : (backTo pos (starEach es X.env)).any (·.1) = false := by rfl) : XQ X S U g (.Call fe (e :: es) [] pos) ou := by
  obtain ⟨q, hq, F⟩ := F.ex
  rw [← C.kw] at hq
  refine ⟨fun pins s σ H Q I w => ?_⟩
  obtain ⟨B, M, st, kk⟩ := w
  refine PyProof.Rows.Call_ (thn (hf.run pins s σ H (fun v H1 => Same H H1 ∧ Rep S (hid M H1) v (.obj c fs)) I ⟨B, M, st, fun v H1 e1 r => ⟨e1, r⟩⟩) fun u s1 ⟨v, H1, I1, rx, e1, r⟩ => ?_) ht
  have r0 := r
  cases r with
  | obj h rr =>
    rename_i a dx ws
    obtain rfl : u = Value.ref a := rx
    refine StX.callO_with (thn (ha.run pos pins s1 σ H1 (fun vs H2 => Same H1 H2 ∧ Reps S (hid M H2) vs ds) I1 ⟨B, M, st.mono e1, fun vs H2 e2 r2 => ⟨e2, r2⟩⟩) fun us s2 ⟨vs, H2, I2, r2, e2, rs⟩ => ?_) hst hpl
    obtain ⟨ox, od, J, hd⟩ := StX.insC_at (C := S.cO c) I2 (.inr ⟨_, _, e2 _ _ (hid_some h).2⟩)
    refine ⟨⟨_, ox, od, J, hd⟩, wpAny_call (PySem.W.kco_code I2.kIn J hd hq.at_ hq.fn hq.fi ?_)⟩
    have F' := F.fnr
    obtain ⟨⟨w1, w2, c3, c4⟩, c1, c2⟩ := C
    subst w1
    refine codeAny_mono (F' X.A X.stack s2 H2 _ (.ref a :: vs) Q (WE U σ) (c2.mono hj) I2.env0 (.cons rfl r2) ⟨M, _, ou, by rw [List.length_cons, rs.length, hn], (st.mono (e1.trans e2)).trk, .cons (r0.mono (hid_same e2)) rs, by rw [List.append_nil]; exact hR, outk_mono (e1.trans e2) kk⟩) fun r s' w => ?_
    cases r with
    | error e => exact L2N.passAt tk σ pins H2 s2 e s' I2 w
    | ok fl =>
      cases fl with
      | ret u => exact I2.after w
      | next => exact w.elim
      | brk => exact w.elim
      | cont => exact w.elim
theorem e_callO (C : Cc X W S k) (F : CallC W S c j n R) (hf : Fw.XE X S g fe (.obj c fs)) (ha : XA X S g (e :: es) ds) (hR : R (.obj c fs :: ds) (.ok d)) (hn : ds.length + 1 = n := by rfl) (hj : j ≤ k := by decide)
    (ht : eval (.Call fe (e :: es) [] pos) X.env = (do callWith pos (← eval fe X.env) [] (backTo pos (starEach (e :: es) X.env)) (backToKw pos (keywordEach [] X.env))) := by rfl)
    (hst : starEach (e :: es) X.env = (false, eval e X.env) :: starEach es X.env := by rfl) (hpl : (backTo pos (starEach es X.env)).any (·.1) = false := by rfl) : Fw.XE X S g (.Call fe (e :: es) [] pos) d :=
  q_callO C takes0 F hf ha hR hn hj ht hst hpl
/-- o.f, a property -/
theorem e_oprop (C : Cc X W S k) (OC : ObC W S c x fns) (F : PropO W S c f j R) (he : Fw.XE X S g e (.obj c fs)) (hR : R [.obj c fs] (.ok d)) (hj : j + 1 ≤ k := by decide) (hb : attributeBase e f X.env (eval e X.env) = eval e X.env := by rfl) : Fw.XE X S g (.Attribute e f pos) d := by
  obtain ⟨p, q, hp, F⟩ := F.ex
  obtain ⟨fd, ps, F1, hl, dvs, us, hbi, hv, hd⟩ := F.ex
  have hcl := OC.cls
  obtain ⟨⟨w1, w2, c3, c4⟩, c1, c2⟩ := C
  subst w1
  refine peI (pe_prop (E := E0) he hcl hp F1 (c2.mono hj) hbi hv passN hb) fun σ H Q ⟨B, M, st, kk⟩ => ⟨B, M, st, fun v H1 e1 r => ?_⟩
  have r0 := r
  cases r with
  | obj h rr =>
    refine ⟨_, _, _, rfl, (hid_some h).2, ?_⟩
    exact sp_use (ds := [.obj c fs]) hd (by rw [hl]; rfl) hR (st.mono e1) (.cons r0 .nil) fun v H2 e2 r2 => kk v H2 (e1.trans e2) r2
/-- e in o -/
theorem c_inO {bb : Bool} (C : Cc X W S k) (F : OwnOp W S (S.cO c) "__contains__" j 2 R) (hR : R [.obj c fs, da] (.ok (.bl bb))) (hj : j ≤ k := by decide) : BinD X S (compareOp .In) da (.obj c fs) (.bl bb) := by
  obtain ⟨q, F1, hs, hf⟩ := F.ex
  rintro pins s σ H x y v u Q I rx ry ⟨M, tr, r, kk⟩
  obtain ⟨x', y', e, q1, q2⟩ := r.two
  cases e
  obtain ⟨a, ox, od, rfl, J⟩ := inst_at (A := S.cO c) I q2 rfl
  cases ry
  obtain ⟨m, hF⟩ := I.fr
  rw [← C.kw] at hs hf
  refine PySem.W.in_K hF I.ok.mod.kin J hs hf ?_
  refine wpAny_mono (run_MQ (vs := [.ref a, x]) (us := [.ref a, v]) C takes0 F1 hj I (.cons rfl (.cons rx .nil)) tr (.cons q2 (.cons q1 .nil)) rfl hR (Q := fun w H' => w = .bl bb ∧ Q w H') fun w H' e' r' => by cases r' with | bl b => exact ⟨rfl, kk _ H' e' (.bl _)⟩) (fun w s' z => ?_) fun _ _ x => x
  obtain ⟨z', H', I', rz, rfl, qz⟩ := z
  cases rz
  exact PySem.wpAny_truthy_bool ⟨.bl bb, H', I', rfl, qz⟩
theorem c_notinO {bb : Bool} (C : Cc X W S k) (F : OwnOp W S (S.cO c) "__contains__" j 2 R) (hR : R [.obj c fs, da] (.ok (.bl bb))) (hj : j ≤ k := by decide) : BinD X S (compareOp .NotIn) da (.obj c fs) (.bl (!bb)) := by
  obtain ⟨q, F1, hs, hf⟩ := F.ex
  rintro pins s σ H x y v u Q I rx ry ⟨M, tr, r, kk⟩
  obtain ⟨x', y', e, q1, q2⟩ := r.two
  cases e
  obtain ⟨a, ox, od, rfl, J⟩ := inst_at (A := S.cO c) I q2 rfl
  cases ry
  obtain ⟨m, hF⟩ := I.fr
  rw [← C.kw] at hs hf
  refine PySem.W.notIn_K hF I.ok.mod.kin J hs hf ?_
  refine wpAny_mono (run_MQ (vs := [.ref a, x]) (us := [.ref a, v]) C takes0 F1 hj I (.cons rfl (.cons rx .nil)) tr (.cons q2 (.cons q1 .nil)) rfl hR (Q := fun w H' => w = .bl bb ∧ Q (.bl (!bb)) H') fun w H' e' r' => by cases r' with | bl b => exact ⟨rfl, kk _ H' e' (.bl _)⟩) (fun w s' z => ?_) fun _ _ x => x
  obtain ⟨z', H', I', rz, rfl, qz⟩ := z
  cases rz
  exact PySem.wpAny_truthy_bool ⟨.bl (!bb), H', I', rfl, qz⟩

/-! ### making -/
def InitO (S : Sg) (c : Nat) (H : Hp) (M : List Addr) (a dx : Addr) (Q : VK) (E : XK) : Out → Prop
  | .ok (.obj c' fs) => c' = c ∧ ∀ ws H', Same (hid [a] H) H' → H' a = some (.ins (S.cO c) dx ws) → RepF S (hid (a :: M) H') ws fs → Q .non H'
  | .ok _ => False
  | .err c' fs => ∀ dd us H', Same (hid [a] H) H' → (fs ≠ [] → hid [a] H dd = none ∧ H' dd = some (.xd us) ∧ ∃ M', RepF S (hid M' H') us fs) → E (.ref (S.cX c')) (dOf fs dd) H'
  | .new _ => False
def spOb (S : Sg) (c n : Nat) (R : List D → Out → Prop) : Sp := fun vs H Q E => ∃ a dx ws M ds o, vs = .ref a :: ws ∧ ws.length + 1 = n ∧ dx ≠ a ∧ a ∉ M ∧ H a = some (.ins (S.cO c) dx []) ∧ (∀ b ∈ M, H b ≠ none) ∧ Reps S (hid (a :: M) H) ws ds ∧ R ds o ∧ InitO S c H M a dx Q E o
def poOb (c : Nat) (a dx : Addr) : Out → Po
  | .ok (.obj c' fs) => { nx := fun g => c' = c ∧ g[0]? = some (.ob a dx c fs), rt := fun _ => False }
  | .ok _ => { nx := fun _ => False, rt := fun _ => False }
  | .err c' fs => { nx := fun _ => False, rt := fun _ => False, ex := fun c2 fs2 _ => c2 = c' ∧ fs2 = fs }
  | .new _ => { nx := fun _ => False, rt := fun _ => False }
theorem ob_init {qual : Str} {st : Stmt} {fa : Addr} {fd : FuncData} {N ps : List Str} {dvs : List V} (F : Fd W.K x qual st dvs fa fd) (hK : W.K = S.K) (sc : FnScope N ps (defScope st))
    (body : ∀ (X : Cx) (U : WX) (a dx : Addr) (ds : List D) (o : Out), InB X W S k N (defScope st) U → R ds o → XB X S U (.ob a dx c [] :: enOf N.tail.length ds) (defBody st) (poOb c a dx o)) :
    FnOk W.P W.w W.K W.mg W.base (L2N.CX W.P W.w) (k + 1) fa fd ps (spOb S c ps.length R) := by
  obtain ⟨oc, od, dV, kV, doc, pm, an, cdv, ct, osl, rfl, lk, hcd, _, _⟩ := F.ex
  refine fn_of lk hcd sc (fun vs H Q E ⟨_, _, _, _, _, _, e, hl, _⟩ => by rw [e, List.length_cons, hl]) (fun A outer s H vs Q E hr h => ?_)
  obtain ⟨a, dx, ws, M, ds, o, rfl, hl, ne, haM, ha, tr, rr, hR, ho⟩ := h
  refine ⟨_, body _ (fun cls d _ H => E cls d H) a dx ds o ⟨⟨⟨rfl, hK, passes_of rfl, sc.nd⟩, rfl, rfl, fun _ => rfl⟩, ⟨⟨rfl, hK, passes_of rfl, sc.nd⟩, rfl, hr⟩, L2N.takes_of rfl rfl rfl rfl, rfl, rfl⟩ hR, ?_⟩
  have ha0 : hid [a] H a = none := by unfold hid; rw [if_pos List.mem_cons_self]
  refine ⟨⟨hid [a] H, M, fun _ => True, fun _ _ _ _ => trivial⟩, a :: M, stt_start1 hid_le (fun b hb => List.mem_cons_of_mem _ hb) (fun b hb => ?_) (fun b hb => ?_) trivial ⟨rfl, List.mem_cons_self, ha0, [], ha, .nil⟩ rr, ?_, ?_⟩
  · rcases List.mem_cons.mp hb with z | z
    · rw [z]; exact .inr ha0
    · exact .inl z
  · rcases List.mem_cons.mp hb with z | z
    · rw [z, ha]; exact fun z => nomatch z
    · exact tr b z
  · cases o with
    | ok d =>
      cases d with
      | obj c' fs =>
        refine ⟨fun g M' t H' ⟨rfl, h0⟩ st => ?_, fun _ _ _ z => z.elim, fun _ _ _ _ z => z.elim, fun _ _ _ _ z => z.elim, fun _ _ _ z => z.elim⟩
        obtain ⟨_, _, _, hm, _, us, hs, hrf⟩ := st.sl 0 _ h0
        refine ho.2 us H' st.same hs (hrf.mono (hid_sub fun b hb => ?_))
        rcases List.mem_cons.mp hb with z | z
        · rw [z]; exact hm
        · exact st.sub b z
      | _ => exact ho.elim
    | new d => exact ho.elim
    | err c' fs => exact ⟨fun _ _ _ _ z => z.elim, fun _ _ _ z => z.elim, fun _ _ _ _ z => z.elim, fun _ _ _ _ z => z.elim, fun _ _ _ z => z.elim⟩
  · intro c2 fs2 dd us g M' t H' hx st xd
    cases o with
    | ok d => cases d <;> exact hx.elim
    | new d => exact hx.elim
    | err c' fs' =>
      obtain ⟨rfl, rfl⟩ := hx
      exact ho dd us H' st.same (fun h => let ⟨p, q, r⟩ := xd h; ⟨p, q, M', r⟩)
def outOb (c : Nat) : Out → Bool
  | .ok (.obj c' _) => c' == c
  | .ok _ => false
  | .err _ fs => fs.all fun q => isInt q.2
  | .new _ => false
/-- the class c, as it is called with n arguments -/
structure ObI (W : Wd) (S : Sg) (c : Nat) (x : Str) (k n : Nat) (dd : List D) (R : List D → Out → Prop) : Prop where
  gC : W.mg x = some (.ref (S.cO c))
  ex : ∃ f fd ps, Mk W.K (S.cO c) f ∧ FnOk W.P W.w W.K W.mg W.base (L2N.CX W.P W.w) k f fd ps (spOb S c ps.length R) ∧ ps.length = n + 1 + dd.length ∧ ∃ dvs us, Binds W.K fd ps us ∧ Vals dvs us ∧ ∀ H, Reps S H dvs dd
theorem q_ob (C : Cc X W S k) (tk : L2N.Takes X U) (F : ObI W S c x j n dd R) (G : Ng X x) (ha : XA X S g (e :: es) ds) (hR : R (ds ++ dd) ou) (hO : outOb c ou = true := by rfl) (hn : ds.length = n := by rfl) (hj : j + 1 ≤ k := by decide)
    (he : starEach (e :: es) X.env = (false, eval e X.env) :: starEach es X.env := by rfl) (hpl : (backTo pos (starEach es X.env)).any (·.1) = false := by rfl) : XQ X S U g (.Call (.Name x p) (e :: es) [] pos) ou := by
  obtain ⟨f, fd, ps, mk, F1, hl, dvs, us, hb, hv, hdd⟩ := F.ex
  have gC := F.gC
  obtain ⟨⟨w1, w2, c3, c4⟩, c1, c2⟩ := C
  subst w1
  refine ⟨fun pins s σ H Q I w => ?_⟩
  obtain ⟨B, M, st, kk⟩ := w
  refine wpAny_Call_Name_kw (ld_glob I G.gl gC ?_ G.dbg)
  refine PySem.W.callWith_K (h₀ := X.base) I.ok.mod.kin mk.kp (wpAny_mono (ha.run pos pins s σ H (fun vs H1 => Same H H1 ∧ Reps S (hid M H1) vs ds) I ⟨B, M, st, fun vs H1 e1 r => ⟨e1, r⟩⟩) (fun ws s1 w => ?_) fun _ _ z => z) he hpl
  obtain ⟨vs, H1, I1, r1, e1, rr⟩ := w
  have r3 := rr.append (hdd (hid M H1))
  have st1 := st.mono e1
  refine ⟨I1.kIn, made_run mk F1 (c2.mono hj) hb hv tk I1 r1 fun a dx ha hdx ne => ?_⟩
  have ne' : a ≠ dx := fun z => ne z.symm
  have sm : Same (hid M H1) (hid (a :: M) (upd (upd H1 dx (.own a)) a (.ins (S.cO c) dx []))) := fun b u hb => by
    obtain ⟨q1, q2⟩ := hid_some hb
    have n1 := ne_of_none q2 ha
    have n2 := ne_of_none q2 hdx
    refine hid_of (fun z => ?_) (by rw [upd_ne n1, upd_ne n2]; exact q2)
    rcases List.mem_cons.mp z with z | z
    · exact n1 z
    · exact q1 z
  have hs : Same H1 (hid [a] (upd (upd H1 dx (.own a)) a (.ins (S.cO c) dx []))) := fun b u hb => by
    have n1 := ne_of_none hb ha
    have n2 := ne_of_none hb hdx
    refine hid_of (fun z => n1 (List.mem_singleton.mp z)) (by rw [upd_ne n1, upd_ne n2]; exact hb)
  refine ⟨a, dx, vs ++ dvs, M, ds ++ dd, ou, rfl, by rw [List.length_append, rr.length, (hdd H1).length, hl]; omega, ne, st1.nm ha, upd_same, fun b hb => ?_, r3.mono sm, hR, ?_⟩
  · have q := st1.trk b hb
    have n1 : b ≠ a := fun z => q (z ▸ ha)
    have n2 : b ≠ dx := fun z => q (z ▸ hdx)
    rw [upd_ne n1, upd_ne n2]
    exact q
  · cases ou with
    | ok d =>
      cases d with
      | obj c' fs =>
        have hc : c' = c := by simpa [outOb] using hO
        subst hc
        refine ⟨rfl, fun ws H2 e2 hl2 rf => ⟨rfl, kk _ H2 (e1.trans (hs.trans e2)) (.obj (hid_of (st1.nm ha) hl2) (rf.mono (hid_sub fun b hb => List.mem_cons_of_mem _ hb)))⟩⟩
      | _ => cases hO
    | new d => cases hO
    | err c' fs =>
      intro dd' us2 H2 e2 xd
      exact kk dd' us2 H2 (e1.trans (hs.trans e2)) (fun h => let ⟨p, q, _, r⟩ := xd h; ⟨e1.free (hs.free p), q, r.ints hO⟩)
theorem e_ob (C : Cc X W S k) (F : ObI W S c x j n dd R) (G : Ng X x) (ha : XA X S g (e :: es) ds) (hR : R (ds ++ dd) (.ok (.obj c fs))) (hn : ds.length = n := by rfl) (hj : j + 1 ≤ k := by decide)
    (he : starEach (e :: es) X.env = (false, eval e X.env) :: starEach es X.env := by rfl) (hpl : (backTo pos (starEach es X.env)).any (·.1) = false := by rfl) : Fw.XE X S g (.Call (.Name x p) (e :: es) [] pos) (.obj c fs) :=
  q_ob C takes0 F G ha hR (by simp [outOb]) hn hj he hpl
/-- C.f, a constant of a class -/
theorem e_cval {x : Str} {A : Addr} {mc : Value} {v : V} {u : Value} (C : Kb X W S) (G : Ng X x) (hm : W.mg x = some (.ref A)) (r : ClX.CRead W.K A mc) (k : ClX.CVal W.K A mc f v u) (hv : ∀ H, Rep S H v d) (hb : attributeBase (.Name x p) f X.env (eval (.Name x p) X.env) = eval (.Name x p) X.env := by rfl) : Fw.XE X S g (.Attribute (.Name x p) f pos) d := by
  have hg := C.mg hm
  refine peI (ClX.pe_cval (pe_glob (v := .ref A) G.gl hg rfl G.dbg) hb) fun σ H Q ⟨B, M, st, kk⟩ => ?_
  exact ⟨A, mc, v, u, rfl, by rw [C.kw]; exact r, by rw [C.kw]; exact k, kk _ H (Same.refl H) (hv _)⟩
/-- [*xs, ..] -/
theorem a_star {sp : Pos} (C : Kb X W S) (he : Fw.XE X S g e (.lst ds)) (t : XA X S g es dd) (hs : starEach (.Starred e sp :: es) X.env = (true, eval e X.env) :: starEach es X.env := by rfl) : XA X S g (.Starred e sp :: es) (ds ++ dd) :=
  paI (StX.pa_star he t hs) fun σ H Q ⟨B, M, st, kk⟩ => ⟨B, M, st, fun v H1 e1 r => by
    obtain ⟨p, vs, rfl, hq, rr⟩ := lst_of r
    exact ⟨_, vs, rfl, .inr (hid_l (by rw [C.kk]; exact hq)), B, M, st.mono e1, fun us H2 e2 r2 => kk _ H2 (e1.trans e2) ((rr.mono (hid_same e2)).append r2)⟩⟩
/-- divmod -/
theorem k_divmod {i j : Int} (h : CDivW i j) : CallD X S (.builtin "divmod") [.int i, .int j] (.tup [.int (i / j), .int (i % j)]) := by
  rintro pins s σ H xs us Q I r ⟨M, tr, q, K⟩
  obtain ⟨x', y', e, q1, q2⟩ := q.two
  cases e
  cases q1
  cases q2
  refine call_divmodW pins s σ H _ us Q I r ⟨i, j, rfl, ⟨h.1, PyProof.noPylong_of_log2 h.2⟩, fun p hp => ?_⟩
  exact K _ _ (same_upd hp) (.tup (SqT.of (hid_of (fun z => tr p z hp) upd_same)) (.cons (.int _) (.cons (.int _) .nil)))
end
end Fw

set_option Elab.async false
set_option linter.all false
set_option maxRecDepth 100000
set_option maxHeartbeats 4000000
namespace Fw
open PySem L2

/-! ### lists of pairs: min, index; ranges with a step -/
theorem flats_pairs : ∀ ps : List PI2, flats (ps.map pairD) = true
  | [] => rfl
  | p :: ps => by
    rw [List.map_cons, flats, flats_pairs ps]
    rfl
theorem pds_pairs : ∀ ps : List PI2, pdsOf (ps.map pairD) = ps.map (fun p => PySem.W.Datum.toD p)
  | [] => rfl
  | p :: ps => by
    rw [List.map_cons, List.map_cons, pdsOf, pds_pairs ps]
    rfl
theorem pair_lay (p : PI2) : (PySem.W.Datum.toD p).canLay0 = true := by
  show (PyData.tuple [.int p.1, .int p.2]).canLay0 = true
  simp [PyData.canLay0, PyData.canLayAll0]
theorem pair_depth (p : PI2) : (PySem.W.Datum.toD p).depth = 1 := by
  show (PyData.tuple [.int p.1, .int p.2]).depth = 1
  simp [PyData.depth, PyData.depthAll]
theorem pairs_lay : ∀ zs : List PI2, PyData.canLayAll0 (zs.map fun p => PySem.W.Datum.toD p) = true
  | [] => by simp [PyData.canLayAll0]
  | z :: zs => by rw [List.map_cons, PyData.canLayAll0, pair_lay z, pairs_lay zs]; rfl
theorem pairs_depth : ∀ zs : List PI2, PyData.depthAll (zs.map fun p => PySem.W.Datum.toD p) ≤ 1
  | [] => by simp [PyData.depthAll]
  | z :: zs => by
    have h1 := pairs_depth zs
    have h2 := pair_depth z
    simp only [List.map_cons, PyData.depthAll]
    omega
theorem pair_shaped (p : PI2) : SeqAt.shaped (pdOf (pairD p)) = true := by
  have h := pair_depth p
  show ((PySem.W.Datum.toD p).canLay0 && decide ((PySem.W.Datum.toD p).depth ≤ 64)) = true
  rw [Bool.and_eq_true]
  exact ⟨pair_lay p, decide_eq_true (by omega)⟩
theorem pairs_shaped (zs : List PI2) : SeqAt.shaped (.list (zs.map fun p => PySem.W.Datum.toD p)) = true := by
  have h1 := pairs_depth zs
  have h2 : PyData.depth (.list (zs.map fun p => PySem.W.Datum.toD p)) ≤ 64 := by
    simp only [PyData.depth]
    omega
  show (PyData.canLay0 (.list (zs.map fun p => PySem.W.Datum.toD p)) && decide (PyData.depth (.list (zs.map fun p => PySem.W.Datum.toD p)) ≤ 64)) = true
  rw [Bool.and_eq_true]
  exact ⟨by simp only [PyData.canLay0]; exact pairs_lay zs, decide_eq_true h2⟩
theorem pair_eqv (p q : PI2) : PyData.eqv (pdOf (pairD p)) (pdOf (pairD q)) = decide (p = q) := PySem.W.Datum.eqv p q
theorem minOf_least (x : PI2) : ∀ xs : List PI2, PySem.W.minOf x xs ∈ x :: xs ∧ ∀ q ∈ x :: xs, ¬ plt q (PySem.W.minOf x xs) := fun xs => by
  induction xs generalizing x with
  | nil =>
    refine ⟨List.mem_cons_self, fun q hq => ?_⟩
    rw [List.mem_singleton.mp hq]
    exact plt_ir
  | cons y ys ih =>
    have ltP : ∀ p q : PI2, PySem.W.DatumOrd.lt p q = true ↔ plt p q := fun p q => by
      show (if p.1 = q.1 then decide (p.2 < q.2) else decide (p.1 < q.1)) = true ↔ _
      unfold plt
      by_cases h : p.1 = q.1
      · rw [if_pos h, decide_eq_true_eq]; omega
      · rw [if_neg h, decide_eq_true_eq]; omega
    have e : PySem.W.minOf x (y :: ys) = PySem.W.minOf (if PySem.W.DatumOrd.lt y x = true then y else x) ys := rfl
    rw [e]
    by_cases h : PySem.W.DatumOrd.lt y x = true
    · rw [if_pos h]
      obtain ⟨h1, h2⟩ := ih y
      refine ⟨List.mem_cons_of_mem _ h1, fun q hq => ?_⟩
      rcases List.mem_cons.mp hq with z | z
      · rw [z]
        intro k
        have k2 := h2 y List.mem_cons_self
        rw [ltP] at h
        exact k2 (plt_tr h k)
      · exact h2 q z
    · rw [if_neg h]
      obtain ⟨h1, h2⟩ := ih x
      refine ⟨?_, fun q hq => ?_⟩
      · rcases List.mem_cons.mp h1 with z | z
        · rw [z]; exact List.mem_cons_self
        · exact List.mem_cons_of_mem _ (List.mem_cons_of_mem _ z)
      · rcases List.mem_cons.mp hq with z | z
        · rw [z]; exact h2 x List.mem_cons_self
        · rcases List.mem_cons.mp z with z | z
          · rw [z]
            intro k
            have k2 := h2 x List.mem_cons_self
            rw [ltP] at h
            by_cases e1 : plt x y
            · exact k2 (plt_tr e1 k)
            · obtain rfl := plt_eq e1 h
              exact k2 k
          · exact h2 q (List.mem_cons_of_mem _ z)
section
variable {X : Cx} {W : Wd} {S : Sg} {k : Nat} {g : En} {e o : Expr} {ps : List PI2} {pos apos cpos p : Pos} {tg : Expr} {m q : PI2}
theorem k_minP (C : Cc X W S k) (hm : m ∈ ps) (hg : ∀ q ∈ ps, ¬ plt q m) : CallD X S (.builtin "min") [.lst (ps.map pairD)] (pairD m) := by
  rintro pins s σ H xs us Q I r ⟨M, tr, rr, K⟩
  obtain ⟨x', e, q1⟩ := rr.one
  cases e
  obtain ⟨l, vs, rfl, hq, rs⟩ := lst_of q1
  have hq' := hid_l hq
  rw [← C.kk] at hq'
  obtain ⟨its, rv, hl, _⟩ := I.list hq'
  rw [Vals.ref1 r]
  have dps := dps_of (rs.mono (hid_le (M := M))) (flats_pairs ps)
  rw [← C.kk, pds_pairs] at dps
  obtain ⟨as, hr⟩ := Dp.readsAll I _ _ its dps rv
  match ps, hm, hg, hr, rs with
  | x :: xs, hm, hg, hr, rs =>
    refine PySem.W.min_list_datum (x := x) (xs := xs) (I.ok.hd C.calm) hl.isList (vs := its.toArray) ⟨as, by simpa using hr⟩ (by have := C.room.units; show X.A.units + 1 + 1 < _; omega) fun i v h' tk hi hv hk => ?_
    obtain ⟨l1, l2⟩ := minOf_least x xs
    have em : PySem.W.minOf x xs = m := plt_eq (hg _ l1) (l2 m hm)
    rw [em] at hv
    obtain ⟨bs, hv⟩ := hv
    have hi' : its[i]? = some v := by simpa using hi
    have il := (List.getElem?_eq_some_iff.mp hi').1
    have hvl : vs.length = its.length := rv.length
    obtain ⟨w, hw⟩ : ∃ w, vs[i]? = some w := ⟨_, List.getElem?_eq_getElem (by omega)⟩
    have rel : RelV w v := by
      obtain ⟨u, hu, ru⟩ := rv.get hw
      rw [hi'] at hu
      cases hu
      exact ru
    obtain ⟨d, hd, rd⟩ := rs.getV hw
    rw [List.getElem?_map] at hd
    cases hz : (x :: xs)[i]? with
    | none => rw [hz] at hd; cases hd
    | some z =>
      rw [hz] at hd
      cases hd
      have dz := dp_of (rd.mono (hid_le (M := M))) (show flat (pairD z) = true from rfl)
      rw [← C.kk] at dz
      obtain ⟨cs, hz2⟩ := Dp.reads I _ _ v dz rel
      have e1 := (PyProof.Rows.reads_det (fun b o eb _ => hk b o eb) hz2 hv).1
      have e2 : z = m := by
        have : PyData.tuple [.int m.1, .int m.2] = PyData.tuple [.int z.1, .int z.2] := e1
        injection this with e3
        injection e3 with e4 e5
        injection e5 with e6 e7
        injection e4 with e8
        injection e6 with e9
        exact Prod.ext e8.symm e9.symm
      rw [e2] at rd
      exact ⟨w, H, I.kept hk, rel, K w H (Same.refl H) rd⟩
/-- xs.index(p) -/
theorem e_indexP (C : Cc X W S k) {j : Nat} (ho : Fw.XE X S g o (.lst (ps.map pairD))) (he : Fw.XE X S g e (pairD q)) (hl : ps.length ≤ 1000) (hj : ps[j]? = some q) (hno : ∀ m, m < j → ps[m]? ≠ some q) (hbase : attributeBase o "index" X.env (eval o X.env) = eval o X.env := by rfl)
    (hline : (apos.endLine == cpos.line) = true := by rfl) (hs1 : starEach [e] X.env = (false, eval e X.env) :: starEach [] X.env := by rfl) : Fw.XE X S g (.Call (.Attribute o "index" apos) [e] [] cpos) (.int (j : Nat)) := by
  have hfew : ((backTo cpos (starEach [e] X.env)).all (fun x => !x.1) && (backToKw cpos (keywordEach [] X.env)).all (fun x => x.1.isSome) && decide ([e].length + ([] : List Keyword).length + (if ([] : List Keyword).isEmpty then 0 else 1) < 30)) = true := by
    rw [hs1]
    rfl
  have ha : XA X S g [e] [pairD q] := a_cons he a_nil hs1
  refine peI (pe_bm PySem.F.plainAttrs_list PySem.F.slot_list_index PySem.F.type_list_index (mt_indexD (by have := C.room.un; omega)) ho ha hbase hfew hline hs1 rfl) fun σ H Q ⟨B, M, st, kk⟩ => ?_
  refine ⟨B, M, st, fun v H1 e1 r => ?_⟩
  obtain ⟨l, vs, rfl, hq, rs⟩ := lst_of r
  have hq' := hid_l hq
  rw [← C.kk] at hq'
  refine ⟨.inl ⟨rfl, _, hq'⟩, B, M, st.mono e1, fun ws H2 e2 rw2 => ?_⟩
  obtain ⟨y, rfl, ry⟩ := rw2.one
  have d1 := dp_of (r.mono (hid_same e2)) (show flat (.lst (ps.map pairD)) = true by rw [flat]; exact flats_pairs ps)
  have d1' := dp_mono (hid_le (M := M)) d1
  have d2' := dp_mono (hid_le (M := M)) (dp_of ry (show flat (pairD q) = true from rfl))
  rw [← C.kk] at d1' d2'
  have ep : pdOf (.lst (ps.map pairD)) = .list (ps.map fun p => PySem.W.Datum.toD p) := by rw [pdOf, pds_pairs]
  rw [ep] at d1'
  refine ⟨l, y, pdOf (pairD q), _, j, pdOf (pairD q), rfl, rfl, d1', d2', pairs_shaped ps, pair_shaped q, ?_, ?_, fun m z' hm hz => ?_, kk _ H2 (e1.trans e2) (.int _)⟩
  · rw [List.getElem?_map, hj]
    rfl
  · exact (pair_eqv q q).trans (decide_eq_true rfl)
  · rw [List.getElem?_map] at hz
    cases hr : ps[m]? with
    | none => rw [hr] at hz; cases hz
    | some r =>
      rw [hr] at hz
      cases hz
      refine (pair_eqv r q).trans (decide_eq_false fun z => hno m hm (by rw [hr, z]))
/-- range(i, j, 2) -/
theorem walks_rng2 {lo c : Int} {n : Nat} : Walks S (Itc lo c n) (fun _ => True) n (fun i => .int (lo + i * c)) where
  mono := fun _ _ _ _ => trivial
  go := fun _ i _ _ hi => hi
  stop := fun _ i _ _ hi => hi
  yld := fun M i H x H' _ _ hi ⟨e, y⟩ => by
    subst e
    subst y
    exact ⟨Same.refl _, .int _⟩
theorem i_range3 {i j c : Int} {n : Nat} {e2 e3 : Expr} (G : Ng X "range") (hm : X.mg "range" = none) (ha : XA X S g [e, e2, e3] [.int i, .int j, .int c]) (h : RgC i j c n) (hs : starEach [e, e2, e3] X.env = (false, eval e X.env) :: starEach [e2, e3] X.env := by rfl) (hpl : (backTo pos (starEach [e2, e3] X.env)).any (·.1) = false := by rfl) :
    XI X S g tg (.Call (.Name "range" p) [e, e2, e3] [] pos) n (fun m => .int (i + m * c)) :=
  piI (pi_range3 G.gl hm ha hs hpl) fun σ H R ⟨B, M, st, kk⟩ => ⟨B, M, st, fun vs H1 e1 r => by
    cases r with
    | cons q1 r =>
      obtain ⟨y, z, rfl, q2, q3⟩ := r.two
      cases q1
      cases q2
      cases q3
      exact ⟨i, j, c, n, rfl, h, kk _ _ H1 e1 walks_rng2 trivial⟩⟩
end
end Fw

set_option Elab.async false
set_option linter.all false
set_option maxRecDepth 100000
set_option maxHeartbeats 4000000
namespace Fw
open PySem L2

/-! ### comprehensions over lists of things -/
theorem look_rel {env : Env} : ∀ {names : List (Str × NameKind)} {x : Str} {k : NameKind}, names.lookup x = some k →
    (names.map fun (n, k) => if (k == NameKind.free && env.scope.kind == .function && env.kindOf n == some .cell) then (n, NameKind.cell) else (n, k)).lookup x = some k ∨ (k = .free ∧ (names.map fun (n, k) => if (k == NameKind.free && env.scope.kind == .function && env.kindOf n == some .cell) then (n, NameKind.cell) else (n, k)).lookup x = some .cell)
  | [], _, _, h => by simp at h
  | (n, k') :: r, x, k, h => by
    have ih := @look_rel env r x k
    rw [List.map_cons]
    show List.lookup x ((if (k' == NameKind.free && env.scope.kind == .function && env.kindOf n == some .cell) = true then (n, NameKind.cell) else (n, k')) :: _) = _ ∨ _ ∧ List.lookup x ((if (k' == NameKind.free && env.scope.kind == .function && env.kindOf n == some .cell) = true then (n, NameKind.cell) else (n, k')) :: _) = _
    cases hx : x == n with
    | true =>
      rw [List.lookup_cons, hx] at h
      cases h
      by_cases hc : (k' == NameKind.free && env.scope.kind == .function && env.kindOf n == some .cell) = true
      · rw [if_pos hc]
        refine .inr ⟨?_, by rw [List.lookup_cons, hx]⟩
        rw [Bool.and_eq_true, Bool.and_eq_true] at hc
        have := hc.1.1
        revert this
        cases k' <;> first | (intro _; rfl) | (intro z; exact absurd z (by decide))
      · rw [if_neg hc]
        exact .inl (by rw [List.lookup_cons, hx])
    | false =>
      rw [List.lookup_cons, hx] at h
      by_cases hc : (k' == NameKind.free && env.scope.kind == .function && env.kindOf n == some .cell) = true
      · rw [if_pos hc, List.lookup_cons, hx]
        exact ih h
      · rw [if_neg hc, List.lookup_cons, hx]
        exact ih h
section
variable {X' X : Cx} {W : Wd} {S : Sg} {k : Nat} {N : List Str} {scope : Scope} {env : Env}
theorem InK.own (b : InK X' W S k N (relabel scope env)) (i : Nat) (x : Str) (h : N[i]? = some x) (hv : scope.names.lookup x = some .local) (h1 : (x == ("__debug__" : Str)) = false) (h2 : (x == ("__classdict__" : Str)) = false) : Nm X' i x :=
  b.nm i x h (.inl (lookup_relabel_local hv)) h1 h2
theorem InK.caught (b : InK X' W S k N (relabel scope env)) (i : Nat) (x : Str) (h : N[i]? = some x) (hv : scope.names.lookup x = some .free) (h1 : (x == ("__debug__" : Str)) = false) (h2 : (x == ("__classdict__" : Str)) = false) : Nm X' i x :=
  b.nm i x h ((look_rel (env := env) hv).elim (fun z => .inr (.inr z)) fun z => .inr (.inl z.2)) h1 h2
theorem InK.glob (b : InK X' W S k N (relabel scope env)) (x : Str) (hv : scope.names.lookup x = some .globalImplicit) (h1 : (x == ("__debug__" : Str)) = false) : Ng X' x :=
  b.ng x ((look_rel (env := env) hv).elim id fun z => nomatch z.1) h1
theorem InK.lc (b : InK X' W S k N (relabel scope env)) (i : Nat) (x : Str) (h : N[i]? = some x) (hv : scope.names.lookup x = some .local) : Nl X' i x := b.nl i x h (lookup_relabel_local hv)
theorem range_get {α : Type} {l : List α} {f : α → D} {z : α} : (List.range l.length).map (fun i => f (l.getD i z)) = l.map f := by
  refine List.ext_getElem (by simp) fun i h1 h2 => ?_
  have hi : i < l.length := by simpa using h2
  rw [List.getElem_map, List.getElem_map, List.getElem_range, List.getD_eq_getElem?_getD, List.getElem?_eq_getElem hi]
  rfl
theorem itOf_map {α : Type} {l : List α} {f : α → D} {i : Nat} {z : α} (h : i < l.length) : itOf (l.map f) i = f (l.getD i z) := by
  unfold itOf
  rw [List.getD_eq_getElem?_getD, List.getD_eq_getElem?_getD, List.getElem?_map, List.getElem?_eq_getElem h]
  rfl
theorem getD_mem {α : Type} {l : List α} {i : Nat} {z : α} (h : i < l.length) : l.getD i z ∈ l := by
  rw [List.getD_eq_getElem?_getD, List.getElem?_eq_getElem h]
  exact List.getElem_mem h
theorem res_map {α : Type} {l : List α} {f da : α → D} {z : α} : resL (fun _ => true) (fun i => f (l.getD i z)) (l.map da).length = l.map f := by
  rw [resL_map, List.length_map, range_get]
end
section
variable {X : Cx} {W : Wd} {S : Sg} {U : WX} {k : Nat} {g : En} {P : Po} {α : Type} {l : List α} {da f : α → D} {iter elt : Expr} {x x2 y : Str} {ix ix2 iy z2 : Nat} {px px2 py pos spos tpos : Pos} {scope : Scope}
/-- [elt for x in iter] -/
theorem lc_map (z : α) (C : Cc X W S k) (hl : l.length ≤ 100000) (he : Fw.XE X S g iter (.lst (l.map da))) (ok : BlkOk X.N X.env.scope scope [(x, ix)]) (hn : X.N[ix]? = some x) (hv : scope.names.lookup x = some .local)
    (hel : ∀ X' : Cx, InK X' W S k X.N (relabel scope X.env) → ∀ a ∈ l, Fw.XE X' S ((wipeG g [ix]).set ix (.v (da a))) elt (f a))
    (hs : ∀ x, foldedSetIterable iter X.env x = pure x := by intro _; rfl) : XN X S g (.ListComp elt [⟨.Name x px, iter, [], 0⟩] scope pos) (l.map f) := by
  have hr := (res_map (f := f) (da := da) (l := l) (z := z)).symm
  rw [hr]
  refine n_lc C (i_list C.toKb he) ok (fun _ => true) (fun i => f (l.getD i z)) (fun i => (wipeG g [ix]).set ix (.v (da (l.getD i z)))) (by rw [List.length_map]; exact hl) (fun X' bk i hi => ⟨?_, ts_nil, fun _ => ?_⟩) hs
  · rw [List.length_map] at hi
    rw [itOf_map (z := z) hi]
    exact gw_name bk.C.toKb (bk.lc ix x hn hv) List.mem_cons_self
  · rw [List.length_map] at hi
    exact hel X' bk _ (getD_mem hi)
/-- y = [elt for x in iter] -/
theorem lc_mapS (z : α) (C : Cc X W S k) (hl : l.length ≤ 100000) (Ny : Nl X iy y) (hyl : X.env.scope.names.lookup y = some .local) (he : Fw.XE X S g iter (.lst (l.map da))) (ok : BlkOk X.N X.env.scope scope [(x, ix)]) (hn : X.N[ix]? = some x) (hv : scope.names.lookup x = some .local)
    (hel : ∀ X' : Cx, InK X' W S k X.N (relabel scope X.env) → ∀ a ∈ l, Fw.XE X' S ((wipeG g [ix]).set ix (.v (da a))) elt (f a))
    (hP : P.nx (g.set iy (.own (l.map f)))) (hsw : swapsWith (.ListComp elt [⟨.Name x px, iter, [], 0⟩] scope pos) (some (.Name y py)) spos.line X.env = pure true)
    (hs : ∀ x, foldedSetIterable iter X.env x = pure x := by intro _; rfl) : XS X S U g (.Assign [.Name y py] (.ListComp elt [⟨.Name x px, iter, [], 0⟩] scope pos) spos) P := by
  have hr := (res_map (f := f) (da := da) (l := l) (z := z)).symm
  rw [hr] at hP
  refine s_setLc C Ny hyl (i_list C.toKb he) ok (fun _ => true) (fun i => f (l.getD i z)) (fun i => (wipeG g [ix]).set ix (.v (da (l.getD i z)))) (by rw [List.length_map]; exact hl) (fun X' bk i hi => ⟨?_, ts_nil, fun _ => ?_⟩) hP hsw hs
  · rw [List.length_map] at hi
    rw [itOf_map (z := z) hi]
    exact gw_name bk.C.toKb (bk.lc ix x hn hv) List.mem_cons_self
  · rw [List.length_map] at hi
    exact hel X' bk _ (getD_mem hi)
/-- [elt for x, x2 in iter] over pairs -/
theorem lc_map2 {l : List PI2} {f : PI2 → D} {tz : Nat} (C : Cc X W S k) (hl : l.length ≤ 100000) (he : Fw.XE X S g iter (.lst (l.map pairD))) (ok : BlkOk X.N X.env.scope scope [(x, ix), (x2, ix2)]) (hn : X.N[ix]? = some x) (hv : scope.names.lookup x = some .local) (hn2 : X.N[ix2]? = some x2) (hv2 : scope.names.lookup x2 = some .local)
    (hel : ∀ X' : Cx, InK X' W S k X.N (relabel scope X.env) → ∀ a ∈ l, Fw.XE X' S (((wipeG g [ix, ix2]).set ix (.v (.int a.1))).set ix2 (.v (.int a.2))) elt (f a))
    (hs : ∀ x, foldedSetIterable iter X.env x = pure x := by intro _; rfl) : XN X S g (.ListComp elt [⟨.Tuple [.Name x px, .Name x2 px2] tz tpos, iter, [], 0⟩] scope pos) (l.map f) := by
  have hr := (res_map (f := f) (da := pairD) (l := l) (z := (0, 0))).symm
  rw [hr]
  refine n_lc C (i_list C.toKb he) ok (fun _ => true) (fun i => f (l.getD i (0, 0))) (fun i => ((wipeG g [ix, ix2]).set ix (.v (.int (l.getD i (0, 0)).1))).set ix2 (.v (.int (l.getD i (0, 0)).2))) (by rw [List.length_map]; exact hl) (fun X' bk i hi => ⟨?_, ts_nil, fun _ => ?_⟩) hs
  · rw [List.length_map] at hi
    rw [itOf_map (z := (0, 0)) hi]
    exact gw_tup bk.C (gws_cons (gw_name bk.C.toKb (bk.lc ix x hn hv) List.mem_cons_self) (gws_cons (gw_name bk.C.toKb (bk.lc ix2 x2 hn2 hv2) (List.mem_cons_of_mem _ List.mem_cons_self)) gws_nil))
  · rw [List.length_map] at hi
    exact hel X' bk _ (getD_mem hi)
/-- y = [elt for x, x2 in iter] -/
theorem lc_map2S {l : List PI2} {f : PI2 → D} {tz : Nat} (C : Cc X W S k) (hl : l.length ≤ 100000) (Ny : Nl X iy y) (hyl : X.env.scope.names.lookup y = some .local) (he : Fw.XE X S g iter (.lst (l.map pairD))) (ok : BlkOk X.N X.env.scope scope [(x, ix), (x2, ix2)]) (hn : X.N[ix]? = some x) (hv : scope.names.lookup x = some .local) (hn2 : X.N[ix2]? = some x2) (hv2 : scope.names.lookup x2 = some .local)
    (hel : ∀ X' : Cx, InK X' W S k X.N (relabel scope X.env) → ∀ a ∈ l, Fw.XE X' S (((wipeG g [ix, ix2]).set ix (.v (.int a.1))).set ix2 (.v (.int a.2))) elt (f a))
    (hP : P.nx (g.set iy (.own (l.map f)))) (hsw : swapsWith (.ListComp elt [⟨.Tuple [.Name x px, .Name x2 px2] tz tpos, iter, [], 0⟩] scope pos) (some (.Name y py)) spos.line X.env = pure true)
    (hs : ∀ x, foldedSetIterable iter X.env x = pure x := by intro _; rfl) : XS X S U g (.Assign [.Name y py] (.ListComp elt [⟨.Tuple [.Name x px, .Name x2 px2] tz tpos, iter, [], 0⟩] scope pos) spos) P := by
  have hr := (res_map (f := f) (da := pairD) (l := l) (z := (0, 0))).symm
  rw [hr] at hP
  refine s_setLc C Ny hyl (i_list C.toKb he) ok (fun _ => true) (fun i => f (l.getD i (0, 0))) (fun i => ((wipeG g [ix, ix2]).set ix (.v (.int (l.getD i (0, 0)).1))).set ix2 (.v (.int (l.getD i (0, 0)).2))) (by rw [List.length_map]; exact hl) (fun X' bk i hi => ⟨?_, ts_nil, fun _ => ?_⟩) hP hsw hs
  · rw [List.length_map] at hi
    rw [itOf_map (z := (0, 0)) hi]
    exact gw_tup bk.C (gws_cons (gw_name bk.C.toKb (bk.lc ix x hn hv) List.mem_cons_self) (gws_cons (gw_name bk.C.toKb (bk.lc ix2 x2 hn2 hv2) (List.mem_cons_of_mem _ List.mem_cons_self)) gws_nil))
  · rw [List.length_map] at hi
    exact hel X' bk _ (getD_mem hi)
end
end Fw

set_option Elab.async false
set_option linter.all false
set_option maxRecDepth 100000
set_option maxHeartbeats 4000000
namespace Fw
open PySem L2 PyProof.Rows

/-! ### chains of any length, as tests -/
/-- what a chain's tail asks, once its left side stands -/
def XCt (X : Cx) (S : Sg) (g : En) (da : D) (ops : List CmpOp) (es : List Expr) (b : Bool) : Prop := ∀ (pins : List (Addr × Obj)) (s : Shared) (σ : L2.St) (H : Hp) (v : V) (u : Value) (pos : Pos) (Q : Bool → Hp → Prop), L2.Inv X pins σ H s → RelV v u →
  (∃ B M, Stt S B M g σ H ∧ Rep S (hid M H) v da ∧ ∀ H', Same H H' → Q b H') → wpAny (model X.prog X.w) X.A (testChain pos u ops (evalEach es X.env)) (TP X pins σ Q) X.xe s
section
variable {X : Cx} {S : Sg} {g : En} {a e e2 : Expr} {es : List Expr} {d da : D} {op op2 : CmpOp} {ops : List CmpOp} {b b1 b2 : Bool} {pos : Pos}
theorem ct_last (h : Fw.XE X S g e d) (ho : BinD X S (compareOp op) da d (.bl b)) : XCt X S g da [op] [e] b := by
  intro pins s σ H v u pos Q I rv ⟨B, M, st, r, kk⟩
  refine test_last (thn (h.run pins s σ H (fun w H1 => Same H H1 ∧ Rep S (hid M H1) w d) I ⟨B, M, st, fun w H1 e1 r1 => ⟨e1, r1⟩⟩) fun w s1 ⟨y, H1, I1, ry, e1, r1⟩ => ?_)
  refine thn (ho pins s1 σ H1 v y u w (fun z H2 => z = .bl b ∧ Same H1 H2) I1 rv ry ⟨M, (st.mono e1).trk, .cons (r.mono (hid_same e1)) (.cons r1 .nil), fun z H2 e2 rz => by cases rz; exact ⟨rfl, e2⟩⟩) fun c s2 ⟨z, H2, I2, rz, ez, e2⟩ => ?_
  subst ez
  cases rz
  exact wpAny_truthy_bool ⟨H2, I2, kk H2 (e1.trans e2)⟩
theorem ct_link (h : Fw.XE X S g e d) (ho : BinD X S (compareOp op) da d (.bl b1)) (ht : XCt X S g d (op2 :: ops) (e2 :: es) b2) : XCt X S g da (op :: op2 :: ops) (e :: e2 :: es) (b1 && b2) := by
  intro pins s σ H v u pos Q I rv ⟨B, M, st, r, kk⟩
  refine test_link (thn (h.run pins s σ H (fun w H1 => Same H H1 ∧ Rep S (hid M H1) w d) I ⟨B, M, st, fun w H1 e1 r1 => ⟨e1, r1⟩⟩) fun w s1 ⟨y, H1, I1, ry, e1, r1⟩ => ?_)
  refine thn (ho pins s1 σ H1 v y u w (fun z H2 => z = .bl b1 ∧ Same H1 H2) I1 rv ry ⟨M, (st.mono e1).trk, .cons (r.mono (hid_same e1)) (.cons r1 .nil), fun z H2 e2 rz => by cases rz; exact ⟨rfl, e2⟩⟩) fun c s2 ⟨z, H2, I2, rz, ez, e2⟩ => ?_
  subst ez
  cases rz
  refine wpAny_truthy_bool ?_
  cases b1 with
  | false => exact ite_ff ⟨H2, I2, kk H2 (e1.trans e2)⟩
  | true => exact ite_tt (ht pins s2 σ H2 y w pos Q I2 ry ⟨B, M, st.mono (e1.trans e2), r1.mono (hid_same e2), fun H3 e3 => kk H3 ((e1.trans e2).trans e3)⟩)
theorem t_chainN {r1 r2 : Expr} {rs : List Expr} (ha : Fw.XE X S g a da) (ht : XCt X S g da (op :: op2 :: ops) (r1 :: r2 :: rs) b) (hm : lastMarks (op :: op2 :: ops) (r1 :: r2 :: rs) = false := by with_unfolding_all rfl) : Fw.XT X S g (.Compare a (op :: op2 :: ops) (r1 :: r2 :: rs) pos) b := by
  refine ⟨fun pins s σ H Q I ⟨B, M, st, kk⟩ => ?_⟩
  exact isTrue_chain (thn (ha.run pins s σ H (fun w H1 => Same H H1 ∧ Rep S (hid M H1) w da) I ⟨B, M, st, fun w H1 e1 r1 => ⟨e1, r1⟩⟩) fun w s1 ⟨y, H1, I1, ry, e1, r1⟩ => ht pins s1 σ H1 y w pos Q I1 ry ⟨B, M, st.mono e1, r1, fun H2 e2 => kk H2 (e1.trans e2)⟩) hm
end
end Fw

set_option Elab.async false
set_option linter.all false
set_option maxRecDepth 100000
set_option maxHeartbeats 4000000
namespace Fw
open PySem L2

/-! ### an instance of one's own, looked at as a value -/
mutual
/-- data that does not reach an instance of the class c -/
def Past (S : Sg) (c : Nat) : D → Prop
  | .obj c' fs => S.cO c' ≠ S.cO c ∧ PastF S c fs
  | .tup xs => Pasts S c xs
  | .lst xs => Pasts S c xs
  | _ => True
def Pasts (S : Sg) (c : Nat) : List D → Prop
  | [] => True
  | d :: ds => Past S c d ∧ Pasts S c ds
def PastF (S : Sg) (c : Nat) : List (Str × D) → Prop
  | [] => True
  | d :: ds => Past S c d.2 ∧ PastF S c ds
end
section
variable {S : Sg} {H : Hp} {M : List Addr} {a dx0 : Addr} {c : Nat} {ws0 : List (Str × V)}
theorem hid_past {b : Addr} {o : HO} (hb : b ≠ a) (h : hid M H b = some o) : hid (a :: M) H b = some o := by
  obtain ⟨h1, h2⟩ := hid_some h
  exact hid_of (fun z => (List.mem_cons.mp z).elim hb h1) h2
theorem rd_past {b : Addr} {o : HO} (ha : H a = some (.ins (S.cO c) dx0 ws0)) (ho : ∀ C d f, o ≠ .ins C d f) (h : Rd (hid M H) b o) : Rd (hid (a :: M) H) b o := by
  rcases h with h | ⟨ob, h⟩
  · exact .inl (hid_past (fun z => by
      subst z
      rw [(hid_some h).2] at ha
      exact ho _ _ _ (Option.some.inj ha)) h)
  · exact .inr ⟨ob, hid_past (fun z => by
      subst z
      rw [(hid_some h).2] at ha
      cases ha) h⟩
theorem slt_past {b dx : Addr} {vs : List (Option V)} (ha : H a = some (.ins (S.cO c) dx0 ws0)) (hC : S.cO c ≠ S.cP) (h : SlX.Slt (hid M H) b S.cP dx vs) : SlX.Slt (hid (a :: M) H) b S.cP dx vs :=
  h.imp (fun z => ⟨hid_past (fun e => by
    subst e
    rw [(hid_some z.1).2] at ha
    have e2 := Option.some.inj ha
    injection e2 with e3
    exact hC e3.symm) z.1, z.2⟩) fun z => ⟨hid_past (fun e => by
    subst e
    rw [(hid_some z.1).2] at ha
    unfold SlX.SlO at ha
    cases ha) z.1, hid_past (fun e => by
    subst e
    rw [(hid_some z.2).2] at ha
    cases ha) z.2⟩
theorem ins_past {b dx C : Addr} {ws : List (Str × V)} (ha : H a = some (.ins (S.cO c) dx0 ws0)) (hq : C ≠ S.cO c) (h : hid M H b = some (.ins C dx ws)) : hid (a :: M) H b = some (.ins C dx ws) :=
  hid_past (fun e => by
    subst e
    rw [(hid_some h).2] at ha
    have e2 := Option.some.inj ha
    injection e2 with e3
    exact hq e3) h
theorem past_tup {xs : List D} (q : Past S c (.tup xs)) : Pasts S c xs := by unfold Past at q; exact q
theorem past_lst {xs : List D} (q : Past S c (.lst xs)) : Pasts S c xs := by unfold Past at q; exact q
theorem past_obj {c' : Nat} {fs : List (Str × D)} (q : Past S c (.obj c' fs)) : S.cO c' ≠ S.cO c ∧ PastF S c fs := by unfold Past at q; exact q
theorem pasts_cons {d : D} {ds : List D} (q : Pasts S c (d :: ds)) : Past S c d ∧ Pasts S c ds := by unfold Pasts at q; exact q
theorem pastF_cons {d : Str × D} {ds : List (Str × D)} (q : PastF S c (d :: ds)) : Past S c d.2 ∧ PastF S c ds := by unfold PastF at q; exact q
theorem tup_past {b : Addr} {xs : List V} (ha : H a = some (.ins (S.cO c) dx0 ws0)) (h : SqT S.K (hid M H) b xs) : SqT S.K (hid (a :: M) H) b xs := h.imp (fun z => rd_past ha (fun _ _ _ z => nomatch z) z) id
theorem lst_past {b : Addr} {xs : List V} (ha : H a = some (.ins (S.cO c) dx0 ws0)) (h : SqL S.K (hid M H) b xs) : SqL S.K (hid (a :: M) H) b xs := h.imp (fun z => rd_past ha (fun _ _ _ z => nomatch z) z) id
mutual
theorem Rep.past (ha : H a = some (.ins (S.cO c) dx0 ws0)) (hC : S.cO c ≠ S.cP) : ∀ {v : V} {d : D}, Rep S (hid M H) v d → Past S c d → Rep S (hid (a :: M) H) v d
  | _, _, .non, _ => .non
  | _, _, .bl b, _ => .bl b
  | _, _, .int i, _ => .int i
  | _, _, .str x, _ => .str x
  | _, _, .tup h r, q => .tup (tup_past ha h) (Reps.past ha hC r (past_tup q))
  | _, _, .lst h r, q => .lst (lst_past ha h) (Reps.past ha hC r (past_lst q))
  | _, _, .pt h hx hy ho, _ => .pt (slt_past ha hC h) hx hy ho
  | _, _, .obj h r, q => .obj (ins_past ha (past_obj q).1 h) (RepF.past ha hC r (past_obj q).2)
theorem Reps.past (ha : H a = some (.ins (S.cO c) dx0 ws0)) (hC : S.cO c ≠ S.cP) : ∀ {vs : List V} {ds : List D}, Reps S (hid M H) vs ds → Pasts S c ds → Reps S (hid (a :: M) H) vs ds
  | _, _, .nil, _ => .nil
  | _, _, .cons h t, q => .cons (Rep.past ha hC h (pasts_cons q).1) (Reps.past ha hC t (pasts_cons q).2)
theorem RepF.past (ha : H a = some (.ins (S.cO c) dx0 ws0)) (hC : S.cO c ≠ S.cP) : ∀ {vs : List (Str × V)} {ds : List (Str × D)}, RepF S (hid M H) vs ds → PastF S c ds → RepF S (hid (a :: M) H) vs ds
  | _, _, .nil, _ => .nil
  | _, _, .cons h t, q => .cons (Rep.past ha hC h (pastF_cons q).1) (RepF.past ha hC t (pastF_cons q).2)
end
end
def B0 : Bs := ⟨fun _ => none, [], fun _ => True, fun _ _ _ _ => trivial⟩
theorem Stt.viewOb {S : Sg} {B : Bs} {M : List Addr} {g : En} {t : L2.St} {H : Hp} {i c : Nat} {l dx : Addr} {fs : List (Str × D)} (h : Stt S B M g t H) (hi : g[i]? = some (.ob l dx c fs)) :
    ∃ M' ws, (∀ b, b ∈ M → b ∈ l :: M') ∧ H l = some (.ins (S.cO c) dx ws) ∧ Stt S B0 M' (g.set i (.v (.obj c fs))) t H := by
  obtain ⟨o0, ht0, e0, hm, h0, ws, hl, r⟩ := h.sl i _ hi
  have ht : t[i]? = some (some (.ref l)) := by rw [ht0, e0]
  have hs : ∀ b ∈ M.filter (fun a => decide (a ≠ l)), b ∈ M := fun b hb => (List.mem_filter.mp hb).1
  have hn : l ∉ M.filter (fun a => decide (a ≠ l)) := fun z => by
    have := (List.mem_filter.mp z).2
    simp at this
  have hin : ∀ a, a ∈ M → a ≠ l → a ∈ M.filter (fun a => decide (a ≠ l)) := fun a ha q => List.mem_filter.mpr ⟨ha, decide_eq_true q⟩
  refine ⟨M.filter (fun a => decide (a ≠ l)), ws, fun b hb => ?_, hl, ⟨fun a u z => (nomatch z), fun a ha => (nomatch ha), fun a ha => .inr rfl, fun a ha => h.trk a (hs a ha), fun j s hj => ?_, trivial, fun j k s u w hjk h1 h2 m1 m2 e1 e2 => ?_⟩⟩
  · by_cases z : b = l
    · rw [z]; exact List.mem_cons_self
    · exact List.mem_cons_of_mem _ (hin b hb z)
  · by_cases q : i = j
    · subst q
      obtain ⟨q, _⟩ := set_get hj
      subst q
      exact ⟨_, ht, .ref l, rfl, .obj (hid_of hn hl) (r.mono (hid_sub hs))⟩
    · rw [List.getElem?_set_ne q] at hj
      obtain ⟨o, ho, rr⟩ := h.sl j s hj
      refine ⟨o, ho, ?_⟩
      have apart : ∀ a, s.mine = true → o = some (.ref a) → a ≠ l := fun a m e z => h.apart i j (.ob l dx c fs) s (.ref l) q hi hj rfl m ht (by rw [ho, e, z])
      cases s with
      | no => exact True.intro
      | v d =>
        obtain ⟨v, e1, r1⟩ := rr
        exact ⟨v, e1, r1.mono (hid_sub hs)⟩
      | own ds' =>
        obtain ⟨l', vs', e1, m1, m2, z0, q1, q2⟩ := rr
        exact ⟨l', vs', e1, hin _ m1 (apart l' rfl e1), fun z => (nomatch z), rfl, q1, q2.mono (hid_sub hs)⟩
      | ob a dx c fs =>
        obtain ⟨e1, m1, z0, ws, q1, q2⟩ := rr
        exact ⟨e1, hin _ m1 (apart a rfl e1), rfl, ws, q1, q2.mono (hid_sub hs)⟩
      | pi a dx vs =>
        obtain ⟨e1, m1, m2, z0, z1, ne, q1, q2⟩ := rr
        have nd : dx ≠ l := fun z => by
          rcases q2 with hd | hd
          · rw [z, hl] at hd; cases hd
          · rw [z, hl] at hd; cases hd
        exact ⟨e1, hin _ m1 (apart a rfl e1), hin _ m2 nd, rfl, rfl, ne, q1, q2⟩
      | exc a dd c fs =>
        obtain ⟨e1, x⟩ := rr
        exact ⟨e1, fun hq => let ⟨ws, hd, r1⟩ := x hq; ⟨ws, hd, r1.mono (hid_sub hs)⟩⟩
  · have n1 : i ≠ j := fun z => by
      subst z
      obtain ⟨q, _⟩ := set_get h1
      subst q
      cases m1
    have n2 : i ≠ k := fun z => by
      subst z
      obtain ⟨q, _⟩ := set_get h2
      subst q
      cases m2
    rw [List.getElem?_set_ne n1] at h1
    rw [List.getElem?_set_ne n2] at h2
    exact h.apart j k s u w hjk h1 h2 m1 m2 e1 e2
section
variable {X : Cx} {W : Wd} {S : Sg} {U : WX} {k j : Nat} {g : En} {P : Po} {e : Expr} {es : List Expr} {d : D} {ds dd : List D} {fs fs' : List (Str × D)} {x y f m : Str} {fns : List Str} {i n c : Nat} {pos p p2 apos cpos : Pos} {a dx : Addr} {R : List D → Out → Prop} {R3 : List (Str × D) → List D → Out → Prop} {ou : Out} {bb : Bool}
theorem e_view (hC : S.cO c ≠ S.cP) (hi : g[i]? = some (.ob a dx c fs)) (he : Fw.XE X S (g.set i (.v (.obj c fs))) e d) (hd : Past S c d) : Fw.XE X S g e d :=
  peI he fun σ H Q ⟨B, M, st, kk⟩ => by
    obtain ⟨M', ws, hM, hl, st'⟩ := st.viewOb hi
    exact ⟨_, M', st', fun v H1 e1 r => kk v H1 e1 ((Rep.past (dx0 := dx) (ws0 := ws) (e1 _ _ hl) hC r hd).mono (hid_sub hM))⟩
theorem n_view (hC : S.cO c ≠ S.cP) (hi : g[i]? = some (.ob a dx c fs)) (he : XN X S (g.set i (.v (.obj c fs))) e ds) (hd : Pasts S c ds) : XN X S g e ds :=
  peI he fun σ H Q ⟨B, M, st, kk⟩ => by
    obtain ⟨M', ws, hM, hl, st'⟩ := st.viewOb hi
    refine ⟨_, M', st', fun p vs H1 hp e1 hl1 r => kk p vs H1 hp e1 hl1 ((Reps.past (dx0 := dx) (ws0 := ws) (e1 _ _ hl) hC r hd).mono (hid_sub fun b hb => ?_))⟩
    rcases List.mem_cons.mp hb with z | z
    · rw [z]; exact List.mem_cons_of_mem _ List.mem_cons_self
    · rcases List.mem_cons.mp (hM b z) with w | w
      · rw [w]; exact List.mem_cons_self
      · exact List.mem_cons_of_mem _ (List.mem_cons_of_mem _ w)
theorem t_view (hi : g[i]? = some (.ob a dx c fs)) (he : Fw.XT X S (g.set i (.v (.obj c fs))) e bb) : Fw.XT X S g e bb :=
  ptI he fun σ H Q ⟨B, M, st, kk⟩ => by
    obtain ⟨M', ws, hM, hl, st'⟩ := st.viewOb hi
    exact ⟨_, M', st', kk⟩

/-! ### an instance of one's own, made -/
theorem s_asgOb {cp : Pos} (C : Cc X W S k) (N : Nl X i y) (F : ObI W S c x j n dd R) (G : Ng X x) (ha : XA X S g (e :: es) ds) (hR : R (ds ++ dd) (.ok (.obj c fs))) (h : ∀ a dx, P.nx (g.set i (.ob a dx c fs))) (hn : ds.length = n := by rfl) (hj : j + 1 ≤ k := by decide)
    (he : starEach (e :: es) X.env = (false, eval e X.env) :: starEach es X.env := by rfl) (hpl : (backTo pos (starEach es X.env)).any (·.1) = false := by rfl)
    (hs : swapsWith (.Call (.Name x p) (e :: es) [] pos) (some (.Name y cp)) p2.line X.env = pure false := by rfl) : XS X S U g (.Assign [.Name y cp] (.Call (.Name x p) (e :: es) [] pos) p2) P := by
  have key : PE X (.Call (.Name x p) (e :: es) [] pos) fun t H Q => ∃ B M, Stt S B M g t H ∧ ∀ a dx ws H', H a = none → Same H H' → H' a = some (.ins (S.cO c) dx ws) → RepF S (hid (a :: M) H') ws fs → Q (.ref a) H' := by
    obtain ⟨f, fd, ps, mk, F1, hl, dvs, us, hb, hv, hdd⟩ := F.ex
    have gC := F.gC
    obtain ⟨⟨w1, w2, c3, c4⟩, c1, c2⟩ := C
    subst w1
    refine ⟨fun pins s σ H Q I w => ?_⟩
    obtain ⟨B, M, st, kk⟩ := w
    refine wpAny_Call_Name_kw (ld_glob I G.gl gC ?_ G.dbg)
    refine PySem.W.callWith_K (h₀ := X.base) I.ok.mod.kin mk.kp (wpAny_mono (ha.run pos pins s σ H (fun vs H1 => Same H H1 ∧ Reps S (hid M H1) vs ds) I ⟨B, M, st, fun vs H1 e1 r => ⟨e1, r⟩⟩) (fun ws s1 w => ?_) fun _ _ z => z) he hpl
    obtain ⟨vs, H1, I1, r1, e1, rr⟩ := w
    have r3 := rr.append (hdd (hid M H1))
    have st1 := st.mono e1
    refine ⟨I1.kIn, made_run (U := fun _ _ _ _ => False) mk F1 (c2.mono hj) hb hv takes0 I1 r1 fun a dx ha hdx ne => ?_⟩
    have sm : Same (hid M H1) (hid (a :: M) (upd (upd H1 dx (.own a)) a (.ins (S.cO c) dx []))) := fun b u hb => by
      obtain ⟨q1, q2⟩ := hid_some hb
      have n1 := ne_of_none q2 ha
      have n2 := ne_of_none q2 hdx
      refine hid_of (fun z => ?_) (by rw [upd_ne n1, upd_ne n2]; exact q2)
      rcases List.mem_cons.mp z with z | z
      · exact n1 z
      · exact q1 z
    have hs : Same H1 (hid [a] (upd (upd H1 dx (.own a)) a (.ins (S.cO c) dx []))) := fun b u hb => by
      have n1 := ne_of_none hb ha
      have n2 := ne_of_none hb hdx
      refine hid_of (fun z => n1 (List.mem_singleton.mp z)) (by rw [upd_ne n1, upd_ne n2]; exact hb)
    refine ⟨a, dx, vs ++ dvs, M, ds ++ dd, _, rfl, by rw [List.length_append, rr.length, (hdd H1).length, hl]; omega, ne, st1.nm ha, upd_same, fun b hb => ?_, r3.mono sm, hR, ?_⟩
    · have q := st1.trk b hb
      have n1 : b ≠ a := fun z => q (z ▸ ha)
      have n2 : b ≠ dx := fun z => q (z ▸ hdx)
      rw [upd_ne n1, upd_ne n2]
      exact q
    · exact ⟨rfl, fun ws H2 e2 hl2 rf => ⟨rfl, kk a dx ws H2 (e1.free ha) (e1.trans (hs.trans e2)) hl2 rf⟩⟩
  exact psI (ps_set C.nd N.n N.loc key hs N.fn) fun E σ H ⟨B, M, st, ct, _⟩ => ⟨B, M, st, fun a dx ws H1 hp e1 hl r => ct.nx _ _ _ _ (h a dx) (st.setOb i hp e1 hl r)⟩

/-! ### an instance of one's own, changed by a method -/
/-- the promise of a def that changes the instance -/
def spMut (S : Sg) (c n : Nat) (R : List (Str × D) → List D → Out → Prop) : Sp := fun vs H Q E => ∃ a dx ws0 ws M fs ds o, vs = .ref a :: ws ∧ ws.length + 1 = n ∧ a ∉ M ∧ H a = some (.ins (S.cO c) dx ws0) ∧ (∀ b ∈ M, H b ≠ none) ∧ RepF S (hid (a :: M) H) ws0 fs ∧ Reps S (hid (a :: M) H) ws ds ∧ R fs ds o ∧ InitO S c H M a dx Q E o
theorem ob_mut {qual : Str} {st : Stmt} {fa : Addr} {fd : FuncData} {N ps : List Str} {dvs : List V} (F : Fd W.K x qual st dvs fa fd) (hK : W.K = S.K) (sc : FnScope N ps (defScope st))
    (body : ∀ (X : Cx) (U : WX) (a dx : Addr) (fs : List (Str × D)) (ds : List D) (o : Out), InB X W S k N (defScope st) U → R3 fs ds o → XB X S U (.ob a dx c fs :: enOf N.tail.length ds) (defBody st) (poOb c a dx o)) :
    FnOk W.P W.w W.K W.mg W.base (L2N.CX W.P W.w) (k + 1) fa fd ps (spMut S c ps.length R3) := by
  obtain ⟨oc, od, dV, kV, doc, pm, an, cdv, ct, osl, rfl, lk, hcd, _, _⟩ := F.ex
  refine fn_of lk hcd sc (fun vs H Q E ⟨_, _, _, _, _, _, _, _, e, hl, _⟩ => by rw [e, List.length_cons, hl]) (fun A outer s H vs Q E hr h => ?_)
  obtain ⟨a, dx, ws0, ws, M, fs, ds, o, rfl, hl, haM, ha, tr, rf0, rr, hR, ho⟩ := h
  refine ⟨_, body _ (fun cls d _ H => E cls d H) a dx fs ds o ⟨⟨⟨rfl, hK, passes_of rfl, sc.nd⟩, rfl, rfl, fun _ => rfl⟩, ⟨⟨rfl, hK, passes_of rfl, sc.nd⟩, rfl, hr⟩, L2N.takes_of rfl rfl rfl rfl, rfl, rfl⟩ hR, ?_⟩
  have ha0 : hid [a] H a = none := by unfold hid; rw [if_pos List.mem_cons_self]
  refine ⟨⟨hid [a] H, M, fun _ => True, fun _ _ _ _ => trivial⟩, a :: M, stt_start1 hid_le (fun b hb => List.mem_cons_of_mem _ hb) (fun b hb => ?_) (fun b hb => ?_) trivial ⟨rfl, List.mem_cons_self, ha0, ws0, ha, rf0⟩ rr, ?_, ?_⟩
  · rcases List.mem_cons.mp hb with z | z
    · rw [z]; exact .inr ha0
    · exact .inl z
  · rcases List.mem_cons.mp hb with z | z
    · rw [z, ha]; exact fun z => nomatch z
    · exact tr b z
  · cases o with
    | ok d =>
      cases d with
      | obj c' fs =>
        refine ⟨fun g M' t H' ⟨rfl, h0⟩ st => ?_, fun _ _ _ z => z.elim, fun _ _ _ _ z => z.elim, fun _ _ _ _ z => z.elim, fun _ _ _ z => z.elim⟩
        obtain ⟨_, _, _, hm, _, us, hs, hrf⟩ := st.sl 0 _ h0
        refine ho.2 us H' st.same hs (hrf.mono (hid_sub fun b hb => ?_))
        rcases List.mem_cons.mp hb with z | z
        · rw [z]; exact hm
        · exact st.sub b z
      | _ => exact ho.elim
    | new d => exact ho.elim
    | err c' fs => exact ⟨fun _ _ _ _ z => z.elim, fun _ _ _ z => z.elim, fun _ _ _ _ z => z.elim, fun _ _ _ _ z => z.elim, fun _ _ _ z => z.elim⟩
  · intro c2 fs2 dd us g M' t H' hx st xd
    cases o with
    | ok d => cases d <;> exact hx.elim
    | new d => exact hx.elim
    | err c' fs' =>
      obtain ⟨rfl, rfl⟩ := hx
      exact ho dd us H' st.same (fun h => let ⟨p, q, r⟩ := xd h; ⟨p, q, M', r⟩)
theorem hid_same_mem {M M' : List Addr} {H : Hp} (h : ∀ b, b ∈ M ↔ b ∈ M') : hid M H = hid M' H := by
  funext b
  unfold hid
  by_cases z : b ∈ M
  · rw [if_pos z, if_pos ((h b).mp z)]
  · rw [if_neg z, if_neg fun w => z ((h b).mpr w)]
/-- behind such a def -/
theorem Stt.mut {B : Bs} {M : List Addr} {t : L2.St} {H H' : Hp} {ws' : List (Str × V)} (st : Stt S B M g t H) (hi : g[i]? = some (.ob a dx c fs)) (e : Same (hid [a] H) H') (hl : H' a = some (.ins (S.cO c) dx ws')) (r : RepF S (hid M H') ws' fs') : Stt S B M (g.set i (.ob a dx c fs')) t H' := by
  obtain ⟨o, ho, ee, hm, h0, ws, hl0, rr⟩ := st.sl i _ hi
  have s1 : Same H (upd H' a (.ins (S.cO c) dx ws)) := fun b u hb => by
    by_cases z : b = a
    · subst z
      rw [upd_same, ← hl0, hb]
    · rw [upd_ne z]
      exact e _ _ (hid_of (fun w => z (List.mem_singleton.mp w)) hb)
  have st1 := (st.mono s1).upOb (ws := ws') (fs' := fs') hi (by rw [hid_upd hm]; exact r)
  have eq : upd (upd H' a (.ins (S.cO c) dx ws)) a (.ins (S.cO c) dx ws') = H' := by
    funext b
    by_cases z : b = a
    · subst z; rw [upd_same, hl]
    · rw [upd_ne z, upd_ne z]
  rw [eq] at st1
  exact st1
theorem fnr_of {P' : Program} {w : World} {K : PySem.W.Frag} {mg : Str → Option Value} {base : Heap} {CX : CXT} {q : Addr} {fd : FuncData} {ps : List Str} {sp : Sp} (F : FnOk P' w K mg base CX k q fd ps sp) (hb : Binds K fd ps []) : FnR P' w K mg base CX k q sp :=
  (F.raw hb .nil).imp fun vs H Q E h => by rw [List.append_nil]; exact h
structure MutC (W : Wd) (S : Sg) (c : Nat) (m : Str) (k n : Nat) (R : List (Str × D) → List D → Out → Prop) : Prop where
  ex : ∃ q fd ps, Meth W.K (S.cO c) m q ∧ FnOk W.P W.w W.K W.mg W.base (L2N.CX W.P W.w) k q fd ps (spMut S c ps.length R) ∧ ps.length = n ∧ Binds W.K fd ps []
/-- what a run of such a def asks, from a state in which the instance is one's own -/
theorem mut_sp {B : Bs} {M : List Addr} {t : L2.St} {H : Hp} {ws : List V} {ps : List Str} {Q : VK} {E : XK} (st : Stt S B M g t H) (hi : g[i]? = some (.ob a dx c fs)) (r : Reps S (hid M H) ws ds) (hl : ws.length + 1 = ps.length) (hR : R3 fs ds (.ok (.obj c fs'))) (kk : ∀ H', Stt S B M (g.set i (.ob a dx c fs')) t H' → Q .non H') : spMut S c ps.length R3 (.ref a :: ws) H Q E := by
  obtain ⟨o, ho, ee, hm, h0, ws0, hl0, rr⟩ := st.sl i _ hi
  have hmem : ∀ b, b ∈ M ↔ b ∈ a :: M.filter (fun b => decide (b ≠ a)) := fun b => by
    by_cases z : b = a
    · subst z; exact ⟨fun _ => List.mem_cons_self, fun _ => hm⟩
    · refine ⟨fun w => List.mem_cons_of_mem _ (List.mem_filter.mpr ⟨w, decide_eq_true z⟩), fun w => ?_⟩
      rcases List.mem_cons.mp w with w | w
      · exact absurd w z
      · exact (List.mem_filter.mp w).1
  refine ⟨a, dx, ws0, ws, M.filter (fun b => decide (b ≠ a)), fs, ds, _, rfl, hl, fun z => by have := (List.mem_filter.mp z).2; simp at this, hl0, fun b hb => st.trk b (List.mem_filter.mp hb).1, ?_, ?_, hR, rfl, fun ws' H' e hl' r' => kk H' (st.mut hi e hl' ?_)⟩
  · rw [← hid_same_mem hmem]; exact rr
  · rw [← hid_same_mem hmem]; exact r
  · rw [hid_same_mem hmem]; exact r'
/-- x.m(..), as a statement -/
theorem s_mut {pl : Sem Bool} (C : Cc X W S k) (OC : ObC W S c y fns) (F : MutC W S c m j n R3) (N : Nm X i x) (hi : g[i]? = some (.ob a dx c fs)) (hlm : fs.lookup m = none) (ha : XA X S g (e :: es) ds) (hR : R3 fs ds (.ok (.obj c fs'))) (h : P.nx (g.set i (.ob a dx c fs'))) (hn : ds.length + 1 = n := by rfl) (hj : j ≤ k := by decide)
    (hst : starEach (e :: es) X.env = (false, eval e X.env) :: starEach es X.env := by rfl) (hpl : (backTo cpos (starEach es X.env)).any (·.1) = false := by rfl)
    (ht : eval (.Call (.Attribute (.Name x p) m apos) (e :: es) [] cpos) X.env = (do
      let ov ← eval (.Name x p) X.env
      standAt apos.atName
      let (f, first) ← holding [ov] (getMethod ov m pl)
      callWith cpos f first (backTo cpos (starEach (e :: es) X.env)) (backToKw cpos (keywordEach [] X.env))) := by rfl)
    (hs : swapsWith (.Call (.Attribute (.Name x p) m apos) (e :: es) [] cpos) none pos.line X.env = pure false := by rfl) : XS X S U g (.Expr (.Call (.Attribute (.Name x p) m apos) (e :: es) [] cpos) pos) P := by
  have key : PE X (.Call (.Attribute (.Name x p) m apos) (e :: es) [] cpos) fun t H Q => ∃ B M, Stt S B M g t H ∧ ∀ H', Stt S B M (g.set i (.ob a dx c fs')) t H' → Q .non H' := by
    obtain ⟨q, fd, ps, hq, F1, hl, hb⟩ := F.ex
    have hcl := OC.cls
    have Kx : X.K = W.K := C.kw
    rw [← Kx] at hcl hq
    obtain ⟨⟨w1, w2, c3, c4⟩, c1, c2⟩ := C
    subst w1
    refine ⟨fun pins s σ H Q I w => ?_⟩
    obtain ⟨B, M, st, kk⟩ := w
    obtain ⟨o, ho, ee, hm, h0, ws0, hl0, rr⟩ := st.sl i _ hi
    refine PySem.W.methodCall_KW (pl := pl) (thn ((pe_var (pos := p) N.n N.vis N.dbg N.cdt).run pins s σ H (fun v H1 => v = .ref a ∧ H1 = H) I ⟨.ref a, by rw [ho, ee], rfl, rfl⟩) fun u s1 ⟨v, H1, I1, rx, ev, eh⟩ => ?_) ht
    subst ev
    subst eh
    obtain rfl : u = Value.ref a := rx
    refine getmeth_ok I1 hl0 hcl hq (rr.lookN hlm) ?_
    refine PySem.W.callWith_K (first := [.ref a]) (h₀ := X.base) I.ok.mod.kin hq.kp (thn (ha.run cpos pins s1 σ H1 (fun vs H2 => Same H1 H2 ∧ Reps S (hid M H2) vs ds) I1 ⟨B, M, st, fun vs H2 e2 r2 => ⟨e2, r2⟩⟩) fun us s2 ⟨vs, H2, I2, r2, e2, rs⟩ => ⟨I2.kIn, ?_⟩) hst hpl
    exact run_SR (U := fun _ _ _ _ => False) (vs := .ref a :: vs) (ws := .ref a :: us) (fnr_of F1 hb) (c2.mono hj) takes0 I2 (.cons rfl r2) (mut_sp (st.mono e2) hi rs (by rw [rs.length, hl, ← hn]) hR kk)
  exact psI (ps_expr key hs) fun E σ H ⟨B, M, st, ct, _⟩ => ⟨B, M, st, fun H' st' => ct.nx _ _ _ _ h st'⟩
/-- what a class says of a property that may be set -/
structure SetP (W : Wd) (S : Sg) (c : Nat) (f : Str) (k : Nat) (R : List (Str × D) → List D → Out → Prop) : Prop where
  ex : ∃ p q v rest fd ps, PySem.W.takerIn W.K (S.cO c) f = some (some (.ref p)) ∧ PySem.W.typeIn W.K (.ref p) = some (.type "property") ∧ PySem.W.recIn W.K p "property" = some (v :: .ref q :: rest) ∧ FnOk W.P W.w W.K W.mg W.base (L2N.CX W.P W.w) k q fd ps (spMut S c ps.length R) ∧ ps.length = 2 ∧ Binds W.K fd ps []
/-- x.f = e, f a property -/
theorem s_setp {pos' : Pos} (C : Cc X W S k) (OC : ObC W S c y fns) (F : SetP W S c f j R3) (N : Nm X i x) (hi : g[i]? = some (.ob a dx c fs)) (he : Fw.XE X S g e d) (hR : R3 fs [d] (.ok (.obj c fs'))) (h : P.nx (g.set i (.ob a dx c fs'))) (hj : j + 2 ≤ k := by decide)
    (hs : swapsWith e (some (.Attribute (.Name x p) f pos')) pos.line X.env = pure false := by rfl) : XS X S U g (.Assign [.Attribute (.Name x p) f pos'] e pos) P := by
  obtain ⟨pp, q, v0, rest, fd, ps, h1, h2, h3, F1, hl, hb⟩ := F.ex
  have hcl := OC.cls
  obtain ⟨⟨w1, w2, c3, c4⟩, c1, c2⟩ := C
  subst w1
  refine ⟨fun pins s σ H E I w => ?_⟩
  obtain ⟨B, M, st, ct, cx⟩ := w
  refine plainObj_wpAny_Assign_Attribute (thn (he.run pins s σ H (fun v H1 => Same H H1 ∧ Rep S (hid M H1) v d) I ⟨B, M, st, fun v H1 e1 r => ⟨e1, r⟩⟩) fun u s1 ⟨v, H1, I1, rv, e1, r1⟩ => ?_) hs
  have st1 := st.mono e1
  obtain ⟨o, ho, ee, hm, h0, ws0, hl0, rr⟩ := st1.sl i _ hi
  refine thn ((pe_var (pos := p) N.n N.vis N.dbg N.cdt).run pins s1 σ H1 (fun v H2 => v = .ref a ∧ H2 = H1) I1 ⟨.ref a, by rw [ho, ee], rfl, rfl⟩) fun u2 s2 ⟨v2, H2, I2, rx, ev, eh⟩ => ?_
  subst ev
  subst eh
  obtain rfl : u2 = Value.ref a := rx
  obtain ⟨mA, O, _⟩ := ins_get I2.hok hl0
  obtain ⟨od, J, _⟩ := O.look
  obtain ⟨m, hF⟩ := I2.fr
  refine PySem.W.set_prop hF I2.ok.mod.kin J hcl.sa hcl.po h1 h2 h3 ?_
  have I3 := I2.tok (s2.toks + 1)
  have run := (fnr_of F1 hb) X.A.in1.in1 X.stack { s2 with toks := s2.toks + 1 } H2 [.ref a, u] [.ref a, v] (fun w H' => w = .non ∧ Stt S B M (g.set i (.ob a dx c fs')) σ H') E0 ((c2.mono hj).in1.in1) (I3.env0.in1.in1) (.cons rfl (.cons rv .nil)) (mut_sp st1 hi (.cons r1 .nil) (by rw [hl]; rfl) hR fun H' st' => ⟨rfl, st'⟩)
  refine codeAny_mono run fun r s' w => ?_
  cases r with
  | error er =>
    obtain ⟨_, _, _, _, _, _, _, _, _, _, _, _, z⟩ := w
    exact z.elim
  | ok fl =>
    cases fl with
    | ret u3 =>
      obtain ⟨v3, H3, I4, rv3, ev, st'⟩ := I3.after w
      exact ⟨σ, H3, I4, ct.nx _ _ _ _ h st'⟩
    | next => exact w.elim
    | brk => exact w.elim
    | cont => exact w.elim
end
end Fw

set_option Elab.async false
set_option linter.all false
set_option maxRecDepth 100000
set_option maxHeartbeats 4000000
namespace L2N
open PySem PySem.Spec PyProof.Rows L2
/-- several clauses with names: what they wish of an exception, the first that fits -/
def fwMany (K : PySem.W.Frag) (Wo : WX) (D : Ends) : List (Value × Nat × (Addr → Value → Option Addr → TS)) → WX
  | [] => Wo
  | q :: r => fun cls d σ H => ∃ b, PySem.W.exmOne K cls q.1 = some b ∧
      (b = true → ∀ a, H a = none → q.2.2 a cls d { nx := fun t G => D.nx (t.set q.2.1 none) G, rt := D.rt, bk := fun t G => D.bk (t.set q.2.1 none) G, ct := fun t G => D.ct (t.set q.2.1 none) G } (σ.set q.2.1 (some (.ref a))) H) ∧ (b = false → fwMany K Wo D r cls d σ H)
inductive FwHds (X : Cx) : List ExceptHandler → List (Value × Nat × (Addr → Value → Option Addr → TS)) → Prop
  | nil : FwHds X [] []
  | cons {x n : Str} {c : Value} {i : Nat} {ts : Addr → Value → Option Addr → TS} {s0 : Stmt} {more : List Stmt} {p1 p2 : Pos} {hds : List ExceptHandler} {l : List (Value × Nat × (Addr → Value → Option Addr → TS))} (nx : Names X x c) (at_ : X.N[i]? = some n) (lc : X.env.kindOf n = some .local)
      (run : ∀ (a : Addr) (ob : Obj) (cls : Value) (d : Option Addr) (pn : List (Addr × Obj)), Zn cls d ob → (∃ vs, ob.data = .fields vs) → PSs (X.suite a ((a, ob) :: pn)) (s0 :: more) (ts a cls d)) (r : FwHds X hds l) :
      FwHds X (.ExceptHandler (some (.Name x p1)) (some n) (s0 :: more) p2 :: hds) ((c, i, ts) :: l)
section
variable {X : Cx} {Wo : WX} {l : List (Value × Nat × (Addr → Value → Option Addr → TS))} {hds : List ExceptHandler} {pins : List (Addr × Obj)}
theorem fw_clauses {D : Ends} {σ : St} {H : Hp} {s : Shared} {B h : Heap} {a : Addr} {cls : Value} {d : Option Addr} (ok : X.Ok) (hst : X.stack = X.env :: X.outer) (hfm : X.env.frame = some X.env.locals) (nd : X.N.Nodup) (tk : Takes X Wo)
    (na : H a = none)
    (land : ∀ h4, HandSPX.FlyingZ B (X.env :: X.outer) a (Zn cls d) h4 → h.UpToSlots h4 → Inv X pins σ H { s with heap := h4 }) (fl : HandSPX.FlyingZ B (X.env :: X.outer) a (Zn cls d) h)
    (away : ∀ h4, HandSPX.FlyingZ B (X.env :: X.outer) a (Zn cls d) h4 → h.UpToSlots h4 → a ≠ X.env.locals ∧ a ∉ X.fs)
    (out : Wo cls d σ H → wpAny (model X.prog X.w) X.A (handleBy (.ref a) X.env []) (SP X pins D) X.xe { s with heap := h })
    (hh : FwHds X hds l) (w : fwMany X.K Wo D l cls d σ H) : wpAny (model X.prog X.w) X.A (handleBy (.ref a) X.env hds) (SP X pins D) X.xe { s with heap := h } := by
  induction hh with
  | nil => exact out w
  | cons nx at_ lc run r ih =>
    rename_i x n c i ts s0 more p1 p2 hds' l'
    obtain ⟨b, hb1, hyes, hno⟩ := w
    obtain ⟨o3, us3, he3, hz3, hd3⟩ := fl.there
    obtain ⟨nL, nF⟩ := away h fl (Heap.UpToSlots.refl _)
    have J3 : Inv X pins σ H { s with heap := h } := land h fl (Heap.UpToSlots.refl _)
    have S3 := J3.suite he3 hd3 na nL nF
    refine wpAny_handleBy_cons (codeAny_handlers_test ?_) (by intro q; cases q)
    have kind : PySem.W.Looks (model X.prog X.w) h (typeOf (.ref a)) cls := fun A Q E s k q => wpAny_typeOf_ref (k _ _ he3) (by rw [hz3.1]; exact q)
    have fits := PySem.W.exm_one (M := model X.prog X.w) (J3.kIn) kind hb1
    have name : ∀ {Q : Value → Shared → Prop} {E : Value → Shared → Prop}, Q c { s with heap := h } → wpAny (model X.prog X.w) (X.A.mark (some (.ref a))) (eval (.Name x p1) X.env) Q E { s with heap := h } := fun {Q E} q => by
      obtain ⟨hg, hdbg, hm | ⟨hm, hv, hnn⟩⟩ := nx
      · exact ld_glob (X := X.suite a ((a, o3) :: (X.pn ++ pins))) S3 hg hm q hdbg
      · exact ld_blt (X := X.suite a ((a, o3) :: (X.pn ++ pins))) S3 hg hm hv q hnn hdbg
    refine name (fits.here ?_)
    cases b with
    | false =>
      show wpAny _ X.A (handleBy (.ref a) X.env hds') _ _ _
      exact ih (hno rfl)
    | true =>
      refine codeAny_handlers_suite_as (HandSPX.lands_againZ fl fun h4 fl4 up4 => ?_)
      have J4 : Inv X pins σ H { s with heap := h4 } := land h4 fl4 up4
      obtain ⟨nL4, nF4⟩ := away h4 fl4 up4
      obtain ⟨o4, us4, he4, hz4, hd4⟩ := fl4.there
      have S4 := J4.suite he4 hd4 na nL4 nF4
      refine store_ok (X := X.suite a ((a, o4) :: (X.pn ++ pins))) (v := .ref a) S4 nd at_ (.inl lc) rfl (fun s5 S5 => ?_) (.inr lc)
      refine wpAny_mono ((run a o4 cls d (X.pn ++ pins) hz4 ⟨_, hd4⟩).run [] s5 _ H _ S5 (hyes rfl a na)) (fun f s6 hsp => ?_) (fun _ _ z => False.elim z)
      have gone : ∀ {σ6 : St} {H6 : Hp} {Q : Shared → Prop}, Inv (X.suite a ((a, o4) :: (X.pn ++ pins))) [] σ6 H6 s6 → (∀ s7, Inv X pins (σ6.set i none) H6 s7 → Q s7) → wpAny (model X.prog X.w) X.A (do bindName X.env n .none; unbindBehindTheSuite X.env n p2) (fun _ s7 => Q s7) X.xe s6 := fun {σ6 H6 Q} S6 hq => gone_ok (S6.unsuite ok) nd at_ lc hq
      cases f with
      | next => exact let ⟨σ6, H6, S6, q6⟩ := hsp; gone S6 fun s7 J7 => ⟨_, _, J7, q6⟩
      | brk => exact let ⟨σ6, H6, S6, q6⟩ := hsp; gone S6 fun s7 J7 => ⟨_, _, J7, q6⟩
      | cont => exact let ⟨σ6, H6, S6, q6⟩ := hsp; gone S6 fun s7 J7 => ⟨_, _, J7, q6⟩
      | ret u => exact let ⟨v6, σ6, H6, S6, r6, q6⟩ := hsp; gone S6 fun s7 J7 => ⟨_, _, _, J7, r6, q6⟩
theorem fw_try {h0 : ExceptHandler} {body : List Stmt} {pos : Pos} {tb : WX → TS} (hst : X.stack = X.env :: X.outer) (hfm : X.env.frame = some X.env.locals) (nd : X.N.Nodup) (tk : Takes X Wo)
    (bodyR : ∀ (W : WX) (pn : List (Addr × Obj)) (xe : Value → Shared → Prop), Takes (X.tr pn xe) W → PassesOwn (model X.prog X.w) X.A X.env xe → PSs (X.tr pn xe) body (tb W)) (hh : FwHds X (h0 :: hds) l) :
    PS X (.Try body (h0 :: hds) [] [] pos) (fun D σ H => tb (fwMany X.K Wo D l) D σ H) := by
  refine ⟨fun pins s σ H D I h => ?_⟩
  have okX := I.ok
  have frames : X.A.frames = some (X.env :: X.outer) := by rw [okX.frames, hst]
  refine wpAny_Try_except ?_
  refine wpAny_mono ((bodyR (fwMany X.K Wo D l) (X.pn ++ pins) (fun e s₁ => wpAny (model X.prog X.w) X.A (noteFrame e X.env) (fun _ s₂ => wpAny (model X.prog X.w) X.A (setFlight e none) (fun _ s₃ => wpAny (model X.prog X.w) X.A (handleBy e X.env (h0 :: hds)) (SP X pins D) X.xe s₃) X.xe s₂) X.xe s₁) (fun u s' xx => ?_) PassesOwn.looking).run [] s σ H D (I.toTry _) h) (fun f s1 hsp => ?_) (fun e s1 he => he)
  · obtain ⟨a, B, sI, pins', σ', H', cls, d, rfl, J', nb, up, sky, na, os, ag, w⟩ := xx
    have J : Inv X pins σ' H' sI := J'.ofTry okX
    have sky' : Sky B (X.env :: X.outer) a (Zn cls d) X.env.locals s'.heap := by rw [← hst]; exact sky
    show wpAny (model X.prog X.w) X.A (noteFrame (.ref a) X.env) _ _ _
    refine Sky.land Zn.steady frames hfm sky' fun h3 fl3 up3 => ?_
    have notFr : ∀ {h : Heap}, HandSPX.FlyingZ B (X.env :: X.outer) a (Zn cls d) h → a ∉ frs (X.env :: X.outer) := fun {h} fl hm => by
      obtain ⟨o9, us9, he9, _, hd9⟩ := fl.there
      obtain ⟨_, o', e', hnf⟩ := fl.2.2.1.mem hm
      rw [he9] at e'; cases e'
      exact hnf _ hd9
    refine fw_clauses (B := B) okX hst hfm nd tk na (fun h4 fl4 up4 => J.landed nb fl4.1 ((up.trans up3).trans up4) os ag) fl3 (fun h4 fl4 up4 => ⟨fun z => notFr fl4 (List.mem_filterMap.mpr ⟨X.env, List.mem_cons_self, by rw [hfm, z]⟩), fun hm => by
      obtain ⟨e, he, q⟩ := List.mem_filterMap.mp hm
      exact notFr fl4 (List.mem_filterMap.mpr ⟨e, List.mem_cons_of_mem _ he, q⟩)⟩) (fun hw => ?_) hh w
    refine wpAny_handleBy_nil ?_
    obtain ⟨k1, k2, k3, oe, vs, T, oT, ts', he, hz, hd, h1, hr⟩ := id fl3
    unfold PySem.passOn
    refine wpAny_bind (wpAny_field he hd h1 ?_)
    rw [if_neg (show ¬ ((Value.ref T == Value.none) = true) from by simp)]
    have leave : wpAny (model X.prog X.w) X.A (setFlight (.ref a) X.env.frame) (fun _ s4 => wpAny (model X.prog X.w) X.A (throw (.ref a) : Sem Flow) (SP X pins D) X.xe s4) X.xe { s' with heap := h3 } := by
      rw [hfm]
      exact HandSPX.setFlight_upZ fl3 fun h4 hh4 up4 => wpAny_throw (tk _ _ ⟨a, B, sI, pins, σ', H', cls, d, rfl, J, nb, (up.trans up3).trans up4, .inr (.inr (by rw [hst]; exact hh4)), na, os, ag, hw⟩)
    first
      | exact wpAny_bind (wpAny_pure (wpAny_bind leave))
      | exact wpAny_bind leave
  · cases f with
    | next => exact let ⟨σ', H', J', q⟩ := hsp; wpAny_execs_nil ⟨σ', H', J'.ofTry okX, q⟩
    | brk => exact let ⟨σ', H', J', q⟩ := hsp; ⟨σ', H', J'.ofTry okX, q⟩
    | cont => exact let ⟨σ', H', J', q⟩ := hsp; ⟨σ', H', J'.ofTry okX, q⟩
    | ret u => exact let ⟨v, σ', H', J', r, q⟩ := hsp; ⟨v, σ', H', J'.ofTry okX, r, q⟩
end
end L2N
namespace Fw
open PySem L2
theorem s_try2 {X : Cx} {W : Wd} {S : Sg} {U : WX} {k : Nat} {N : List Str} {sc : Scope} {g : En} {P : Po} {x1 x2 n : Str} {i c1 c2 : Nat} {ps1 ps2 : List Str} {body u1 u2 : List Stmt} {b1 b2 : Stmt} {np1 np2 pos po1 po2 : Pos} (b : InB X W S k N sc U) (E1 : ErrC W S c1 x1 ps1) (E2 : ErrC W S c2 x2 ps2) (G1 : Ng X x1) (G2 : Ng X x2) (Nn : Nl X i n)
    (hln : sc.names.lookup n = some .local) (Ex : Nat → List (Str × D) → En → Prop) (hc : ∀ c fs g', Ex c fs g' → PySem.W.exmOne W.K (.ref (S.cX c)) (.ref (S.cX c1)) = some true ∨ (PySem.W.exmOne W.K (.ref (S.cX c)) (.ref (S.cX c1)) = some false ∧ PySem.W.exmOne W.K (.ref (S.cX c)) (.ref (S.cX c2)) = some true))
    (hb : ∀ X' U', InB X' W S k N sc U' → XB X' S U' g body { P with ex := Ex })
    (hs1 : ∀ X' U' c fs g' a dd, Ex c fs g' → PySem.W.exmOne W.K (.ref (S.cX c)) (.ref (S.cX c1)) = some true → InS X' W S k N sc a c dd → XB X' S U' (g'.set i (.exc a dd c fs)) (b1 :: u1) { nx := fun g2 => P.nx (g2.set i .no), rt := P.rt, bk := fun g2 => P.bk (g2.set i .no), ct := fun g2 => P.ct (g2.set i .no), rn := P.rn })
    (hs2 : ∀ X' U' c fs g' a dd, Ex c fs g' → PySem.W.exmOne W.K (.ref (S.cX c)) (.ref (S.cX c1)) = some false → InS X' W S k N sc a c dd → XB X' S U' (g'.set i (.exc a dd c fs)) (b2 :: u2) { nx := fun g2 => P.nx (g2.set i .no), rt := P.rt, bk := fun g2 => P.bk (g2.set i .no), ct := fun g2 => P.ct (g2.set i .no), rn := P.rn })
    (hne : ∀ c fs g', Ex c fs g' → fs ≠ [] := by (intro _ _ _ h; first | (obtain ⟨_, rfl, _⟩ := h; exact fun z => nomatch z) | (obtain ⟨_, rfl⟩ := h; exact fun z => nomatch z) | (obtain ⟨_, _, rfl, _⟩ := h; exact fun z => nomatch z) | (obtain ⟨_, _, _, rfl, _⟩ := h; exact fun z => nomatch z))) :
    XS X S U g (.Try body [.ExceptHandler (some (.Name x1 np1)) (some n) (b1 :: u1) po1, .ExceptHandler (some (.Name x2 np2)) (some n) (b2 :: u2) po2] [] [] pos) P := by
  have m1 := b.toKb.mg E1.gC
  have m2 := b.toKb.mg E2.gC
  have Kx : X.K = W.K := congrArg Wd.K b.wd
  let tsB : Bool → Addr → Value → Option Addr → TS := fun bb a cls d E t H => ∃ c fs g' dd B M, cls = .ref (S.cX c) ∧ d = some dd ∧ Ex c fs g' ∧ PySem.W.exmOne W.K (.ref (S.cX c)) (.ref (S.cX c1)) = some bb ∧ Stt S B M (g'.set i (.exc a dd c fs)) t H ∧
    Ct S B (fun _ _ _ _ => True) { nx := fun g2 => P.nx (g2.set i .no), rt := P.rt, bk := fun g2 => P.bk (g2.set i .no), ct := fun g2 => P.ct (g2.set i .no), rn := P.rn } E
  have IHs : ∀ (a : Addr) (oe : Obj) (cls : Value) (d : Option Addr) (pn : List (Addr × Obj)) (c dd), cls = .ref (S.cX c) → d = some dd → L2N.Zn cls d oe → (∃ vs, oe.data = .fields vs) → InS (X.suite a ((a, oe) :: pn)) W S k N sc a c dd := fun a oe cls d pn c dd e1 e2 hz ⟨vs, hd⟩ => by
    subst e1
    subst e2
    have IH : InH (X.suite a ((a, oe) :: pn)) W S k N sc := ⟨⟨⟨b.wd, b.K, PassesOwn.never, b.nd⟩, b.N, b.sc, b.fn⟩, ⟨⟨b.wd, b.K, PassesOwn.never, b.nd⟩, ⟨(a, oe), ⟨rfl, vs, hd, hz.2.2 vs hd⟩, List.mem_cons_self⟩, L2H.roomH_mark b.C.room _⟩⟩
    exact ⟨IH, X, oe, pn, rfl, hz.zc, vs, hd⟩
  have lcl : X.env.kindOf n = some .local := by show X.env.scope.names.lookup n = _; rw [b.sc]; exact hln
  refine psI (L2N.fw_try (tb := fun U' E t H => ∃ B M, Stt S B M g t H ∧ Ct S B U' { P with ex := Ex } E ∧ Cx' S B U' { P with ex := Ex }) (l := [(.ref (S.cX c1), i, tsB true), (.ref (S.cX c2), i, tsB false)]) (Wo := U) b.fr.1 b.fr.2 b.nd b.tk
    (fun U' pn xe tk own => hb _ U' (b.try tk own)) (.cons ⟨G1.gl, G1.dbg, .inl m1⟩ Nn.n lcl (fun a oe cls d pn hz hf => ⟨fun pins s σ H E I w => ?_⟩) (.cons ⟨G2.gl, G2.dbg, .inl m2⟩ Nn.n lcl (fun a oe cls d pn hz hf => ⟨fun pins s σ H E I w => ?_⟩) .nil))) fun E σ H ⟨B, M, st, c, cx⟩ => ?_
  · obtain ⟨c, fs, g', dd, B, M, e1, e2, hx, hm, st, ct⟩ := w
    exact (hs1 _ (fun _ _ _ _ => True) c fs g' a dd hx hm (IHs a oe cls d pn c dd e1 e2 hz hf)).run pins s σ H E I ⟨B, M, st, ct, fun _ _ _ _ _ _ _ _ z => z.elim⟩
  · obtain ⟨c, fs, g', dd, B, M, e1, e2, hx, hm, st, ct⟩ := w
    exact (hs2 _ (fun _ _ _ _ => True) c fs g' a dd hx hm (IHs a oe cls d pn c dd e1 e2 hz hf)).run pins s σ H E I ⟨B, M, st, ct, fun _ _ _ _ _ _ _ _ z => z.elim⟩
  · refine ⟨B, M, st, ⟨c.nx, c.rt, c.bk, c.ct, c.rn⟩, fun c' fs dx ws g' M' t H' hx st' xd => ?_⟩
    obtain ⟨hn, hd, r⟩ := xd (hne c' fs g' hx)
    rw [dOf_some (hne c' fs g' hx)]
    have ends : ∀ a : Addr, Ct S B (fun _ _ _ _ => True) { nx := fun g2 => P.nx (g2.set i .no), rt := P.rt, bk := fun g2 => P.bk (g2.set i .no), ct := fun g2 => P.ct (g2.set i .no), rn := P.rn } { nx := fun t G => E.nx (t.set i none) G, rt := E.rt, bk := fun t G => E.bk (t.set i none) G, ct := fun t G => E.ct (t.set i none) G } := fun a =>
      ⟨fun g2 M2 t2 H2 z q => c.nx _ M2 _ H2 z (q.put i rfl trivial), c.rt, fun g2 M2 t2 H2 z q => c.bk _ M2 _ H2 z (q.put i rfl trivial), fun g2 M2 t2 H2 z q => c.ct _ M2 _ H2 z (q.put i rfl trivial), c.rn⟩
    rcases hc c' fs g' hx with h1 | ⟨h1, h2⟩
    · exact ⟨true, by rw [Kx]; exact h1, fun _ a ha => ⟨c', fs, g', dx, B, M', rfl, rfl, hx, h1, st'.put i rfl ⟨rfl, fun _ => ⟨ws, hd, r⟩⟩, ends a⟩, fun z => Bool.noConfusion z⟩
    · exact ⟨false, by rw [Kx]; exact h1, fun z => Bool.noConfusion z, fun _ => ⟨true, by rw [Kx]; exact h2, fun _ a ha => ⟨c', fs, g', dx, B, M', rfl, rfl, hx, h1, st'.put i rfl ⟨rfl, fun _ => ⟨ws, hd, r⟩⟩, ends a⟩, fun z => Bool.noConfusion z⟩⟩
end Fw

set_option Elab.async false
set_option linter.all false
set_option maxRecDepth 100000
set_option maxHeartbeats 4000000
namespace Fw
open PySem L2
section
variable {X : Cx} {S : Sg} {p q : Bool}
def b2I (b : Bool) : Int := if b = true then 1 else 0
/-- bool - bool -/
theorem b_subB : BinD X S (binaryOp .Sub) (.bl p) (.bl q) (.int (b2I p - b2I q)) := by
  intro pins s σ H x y v u Q I rx ry ⟨M, tr, r, K⟩
  obtain ⟨x', y', e, q1, q2⟩ := r.two
  cases e
  cases q1
  cases q2
  cases rx
  cases ry
  have e : b2I p - b2I q = PyProof.Rows.b2i p - PyProof.Rows.b2i q := by cases p <;> cases q <;> rfl
  rw [e] at K
  exact PyProof.Rows.sub_bool ⟨.int _, H, I.tok _, ⟨_, rfl⟩, K _ H (Same.refl H) (.int _)⟩
/-- int(bool) -/
theorem k_intB : CallD X S (.type "int") [.bl p] (.int (b2I p)) := by
  intro pins s σ H xs us Q I r ⟨M, tr, rr, K⟩
  obtain ⟨x', e, q1⟩ := rr.one
  cases e
  cases q1
  exact call_int1 pins s σ H _ us Q I r (.inr ⟨p, rfl, K _ H (Same.refl H) (.int _)⟩)
instance bd_b2 {b : Bool} : Bd (b2I b) 1 := ⟨by cases b <;> decide⟩
end
section
variable {X : Cx} {S : Sg} {U : WX} {g : En} {e1 e2 : Expr} {d : D} {c : Nat} {fs : List (Str × D)} {pos : Pos}
/-- (e1, e2), the second of which raises -/
theorem r_tup2 {z : Nat} (h1 : Fw.XE X S g e1 d) (h2 : XR X S U g e2 c fs) (hs : starEach [e1, e2] X.env = (false, eval e1 X.env) :: starEach [e2] X.env := by rfl) (hs2 : starEach [e2] X.env = (false, eval e2 X.env) :: starEach [] X.env := by rfl) : XR X S U g (.Tuple [e1, e2] z pos) c fs :=
  peI (pe_tup (pa_cons h1 (pa_cons h2 pa_nil hs2) hs)) fun σ H Q ⟨B, M, st, kk⟩ => ⟨B, M, st, fun v H1 e1 r1 => ⟨B, M, st.mono e1, fun dd ws H2 e2 x => kk dd ws H2 (e1.trans e2) (x.back e1)⟩⟩
end
end Fw

set_option Elab.async false
set_option linter.all false
set_option maxRecDepth 100000
set_option maxHeartbeats 4000000
namespace PySem.W
open PySem PySem.Calls PyProof.Rows Builtin PySem.F
theorem fw_listadd (l : Addr) (xs : Array Value) (n : Nat) (sl : Array (Option Value)) (b : Addr) (ys : Array Value) (m : Nat) (sb : Array (Option Value)) (hc0 : xs.size + ys.size ≤ sizeLine) :
    Meets (Builtin.«list.__add__» ⟨[.ref l, .ref b], []⟩) (fun _ R s => s.heap.get? l = some { cls := .type "list", dict := none, data := .seq xs n, slots := sl } ∧ s.heap.get? b = some { cls := .type "list", dict := none, data := .seq ys m, slots := sb } ∧ R (.ok (.ret (Value.ref s.heap.objs.size))) { s with heap := s.heap.push { cls := Value.type "list", data := .seq (xs ++ ys) } }) :=
  .of_wp fun prog w A R s h => by
    obtain ⟨hp, g, d, tk, os⟩ := s
    obtain ⟨hl, hb, h⟩ := h
    have f1 := PySem.AutoSeq1.idx_int
    have f2 := PySem.AutoSeq1.sub_tuple_tuple
    have f3 := PySem.AutoSeq1.sub_list_list
    have f4 := PySem.AutoSeq1.sub_tuple_list
    have f5 := PySem.AutoSeq1.sub_list_tuple
    wp_walk using PySem.AutoSeq1.wpAny_loadPart' hl, PySem.AutoSeq1.wpAny_loadPart' hb
    exact ⟨_, rfl, h⟩
end PySem.W
namespace Fw
open PySem L2
theorem op_catA {X : Cx} : OpR X (binaryOp .Add) (fun x y H Q => ∃ l b xs zs, x = .ref l ∧ y = .ref b ∧ SqL X.K H l xs ∧ SqL X.K H b zs ∧ xs.length + zs.length ≤ 100000 ∧ ∀ p, H p = none → Q (.ref p) (upd H p (.lst (xs ++ zs)))) := by
  intro pins s σ H x y v u Q I rx ry h
  obtain ⟨l, b, xs, zs, rfl, rfl, hH, hB, hz, q⟩ := h
  cases rx
  cases ry
  obtain ⟨i1, r1, ⟨⟨c1, d1, t1, s1⟩, n1, o1, e1, k1, m1⟩, _⟩ := I.list hH
  obtain ⟨i2, r2, ⟨⟨c2, d2, t2, s2⟩, n2, o2, e2, k2, m2⟩, _⟩ := I.list hB
  dsimp only at e1 k1 m1 e2 k2 m2
  subst e1 k1 m1 e2 k2 m2
  have l1 := r1.length
  have l2 := r2.length
  have hs : i1.toArray.size + i2.toArray.size ≤ sizeLine := by
    rw [List.size_toArray, List.size_toArray, sizeLine_eq]
    omega
  refine PySem.concat_meets ⟨_, o1, rfl⟩ ⟨_, o2, rfl⟩ PySem.noFill_list_add PySem.seq_list_add PySem.F.slot_list_add PySem.F.entry_list_add (PySem.F.args_list_add_2 _ _) (PySem.W.fw_listadd l i1.toArray n1 s1 b i2.toArray n2 s2 hs) ⟨o1, o2, ?_⟩
  have ea : i1.toArray ++ i2.toArray = (i1 ++ i2).toArray := by simp
  rw [ea]
  exact ⟨.ref _, _, I.lnew (t' := s.toks) (r1.append r2) (by rw [List.length_append, sizeLine_eq]; omega), rfl, q _ I.fresh⟩
section
variable {X : Cx} {W : Wd} {S : Sg} {k : Nat} {g : En} {a b : Expr} {ds es : List D} {pos : Pos}
/-- list + list -/
theorem n_catA (C : Kb X W S) (ha : Fw.XE X S g a (.lst ds)) (hb : Fw.XE X S g b (.lst es)) (hz : ds.length + es.length ≤ 100000) : XN X S g (.BinOp a .Add b pos) (ds ++ es) :=
  peI (pe_op op_catA ha hb) fun σ H Q ⟨B, M, st, kk⟩ => ⟨B, M, st, fun v H1 e1 r => ⟨B, M, st.mono e1, fun w H2 e2 r2 => by
    obtain ⟨p, vs, rfl, h1, q1⟩ := lst_of r
    obtain ⟨q, ws, rfl, h2, q2⟩ := lst_of r2
    refine ⟨p, q, vs, ws, rfl, rfl, Evl.ex_l e2 (hid_l (by rw [C.kk]; exact h1)), hid_l (by rw [C.kk]; exact h2), by rw [q1.length, q2.length]; exact hz, fun z hn => ?_⟩
    have e := (e1.trans e2).trans (same_upd (o := .lst (vs ++ ws)) hn)
    exact kk z _ _ ((e1.trans e2).free hn) e upd_same (new_list hn ((q1.mono (hid_same e2)).append q2))⟩⟩
end
end Fw

set_option Elab.async false
set_option linter.all false
set_option maxRecDepth 100000
set_option maxHeartbeats 4000000
namespace L2N
open PySem PySem.Spec PyProof.Rows L2
/-- X(), X an own exception class without own __init__ -/
theorem fw_own0 {X : Cx} {C : Addr} {bmB : List Value} {B newId initId : String} {x : Str} {p pos : Pos} (F : ExcBaseFacts B newId initId bmB) (q : PySem.W.excIn X.K C bmB newId = true) (gC : X.mg x = some (.ref C)) (kC : PySem.W.keepIn X.K (.ref C) = true) (r : Raises X (.ref C)) (hg : Gl X x)
    (hdb : (x == ("__debug__" : Str)) = false := by decide) : PMk X (.Call (.Name x p) [] [] pos) (fun _ H Q => Q (.ref C) none H) := by
  intro pins s σ H Q I h
  refine wpAny_Call_Name_kw (ld_glob I hg gC ?_ hdb)
  refine PySem.W.callWith_K0 I.kIn kC ?_
  show wpAny _ _ (call (.ref C) []) _ _ _
  obtain ⟨bm, N, nm, qn, bs, hdct, sn, sub, ab, col, dd, k0, k1, k2, k3, k5, mN, hC, hN, hni, T⟩ := exc_obj I.kIn q
  refine wpAny_call_exc_subT F T hC hN hni (fun h' e hm => ?_) (Nat.zero_le _)
  exact mk_of I hm r h (I.hok.gone hm.new)
end L2N
namespace Fw
open PySem L2
def veBase : List Value := [.type "ValueError", .type "Exception", .type "BaseException", .type "object"]
/-- an error class of the program without attributes -/
structure Erc0 (W : Wd) (S : Sg) (c : Nat) (x : Str) : Prop where
  gC : W.mg x = some (.ref (S.cX c))
  xi : PySem.W.excIn W.K (S.cX c) veBase "ValueError.__new__" = true
  exC : PySem.W.subIn W.K (.ref (S.cX c)) (.type "BaseException") = some true
  tyC : PySem.W.typeIn W.K (.ref (S.cX c)) = some (.type "type")
  kC : PySem.W.keepIn W.K (.ref (S.cX c)) = true
  ec : ExcC W.K (S.cX c)
  self : PySem.W.exmOne W.K (.ref (S.cX c)) (.ref (S.cX c)) = some true
section
variable {X : Cx} {W : Wd} {S : Sg} {U : WX} {k : Nat} {N : List Str} {sc : Scope} {g : En} {P : Po} {a : Addr} {c c0 i : Nat} {x n y : Str} {bb : Bool} {pos p p2 pos' np : Pos} {body suite : List Stmt} {b0 : Stmt}
theorem s_raise0 (C : Cc X W S k) (tk : L2N.Takes X U) (E : Erc0 W S c x) (G : Ng X x) (hx : P.ex c [] g) : XS X S U g (.Raise (some (.Call (.Name x p) [] [] pos)) none pos') P := by
  have gC := E.gC
  have q := E.xi
  have kC := E.kC
  have e1 := E.exC
  have e2 := E.tyC
  obtain ⟨⟨w1, w2, w3, w4⟩, c1, c2⟩ := C
  subst w1
  refine psI (L2N.ps_raise c1 tk (L2N.fw_own0 PySem.F.excBase_ValueError q gC kC (raises_own e1 e2) G.gl G.dbg)) fun E' σ H ⟨B, M, st, c0, cx⟩ => ?_
  exact cx c [] 0 [] g M σ H hx st (fun z => absurd rfl z)
/-- an except suite's context, the error without attributes -/
structure InS0 (X : Cx) (W : Wd) (S : Sg) (k : Nat) (N : List Str) (sc : Scope) (a : Addr) (c : Nat) : Prop extends InH X W S k N sc where
  ex : ∃ X0 oe pn, X = Cx.suite X0 a ((a, oe) :: pn) ∧ Zc (.ref (S.cX c)) none oe ∧ ∃ vs, oe.data = .fields vs
theorem s_try0 (b : InB X W S k N sc U) (E : Erc0 W S c0 x) (G : Ng X x) (Nn : Nl X i n)
    (hln : sc.names.lookup n = some .local) (Ex : Nat → List (Str × D) → En → Prop) (hc : ∀ c fs g', Ex c fs g' → PySem.W.exmOne W.K (.ref (S.cX c)) (.ref (S.cX c0)) = some true) (hne : ∀ c fs g', Ex c fs g' → fs = [])
    (hb : ∀ X' U', InB X' W S k N sc U' → XB X' S U' g body { P with ex := Ex })
    (hs : ∀ X' U' c g' a, Ex c [] g' → InS0 X' W S k N sc a c → XB X' S U' (g'.set i (.exc a 0 c [])) (b0 :: suite) { nx := fun g2 => P.nx (g2.set i .no), rt := P.rt, bk := fun g2 => P.bk (g2.set i .no), ct := fun g2 => P.ct (g2.set i .no), rn := P.rn }) :
    XS X S U g (.Try body [.ExceptHandler (some (.Name x np)) (some n) (b0 :: suite) pos'] [] [] pos) P := by
  have hmg := b.toKb.mg E.gC
  have Kx : X.K = W.K := congrArg Wd.K b.wd
  let ts : Addr → Value → Option Addr → TS := fun a cls d E t H => ∃ c g' B M, cls = .ref (S.cX c) ∧ d = none ∧ Ex c [] g' ∧ Stt S B M (g'.set i (.exc a 0 c [])) t H ∧
    Ct S B (fun _ _ _ _ => True) { nx := fun g2 => P.nx (g2.set i .no), rt := P.rt, bk := fun g2 => P.bk (g2.set i .no), ct := fun g2 => P.ct (g2.set i .no), rn := P.rn } E
  refine psI (L2N.ps_try_as (tb := fun U' E t H => ∃ B M, Stt S B M g t H ∧ Ct S B U' { P with ex := Ex } E ∧ Cx' S B U' { P with ex := Ex }) (ts := ts) (Wout := U) b.fr.1 b.fr.2 b.nd Nn.n (by show X.env.scope.names.lookup n = _; rw [b.sc]; exact hln) ⟨G.gl, G.dbg, .inl hmg⟩ b.tk
    (fun U' pn xe tk own => hb _ U' (b.try tk own)) (fun a oe cls d pn hz hf => ⟨fun pins s σ H E I w => ?_⟩)) fun E σ H ⟨B, M, st, c, cx⟩ => ?_
  · obtain ⟨c, g', B, M, rfl, rfl, hx, st, ct⟩ := w
    obtain ⟨vs, hd⟩ := hf
    have IH : InH (X.suite a ((a, oe) :: pn)) W S k N sc := ⟨⟨⟨b.wd, b.K, PassesOwn.never, b.nd⟩, b.N, b.sc, b.fn⟩, ⟨⟨b.wd, b.K, PassesOwn.never, b.nd⟩, ⟨(a, oe), ⟨rfl, vs, hd, hz.2.2 vs hd⟩, List.mem_cons_self⟩, L2H.roomH_mark b.C.room _⟩⟩
    exact (hs _ (fun _ _ _ _ => True) c g' a hx ⟨IH, X, oe, pn, rfl, hz.zc, vs, hd⟩).run pins s σ H E I ⟨B, M, st, ct, fun _ _ _ _ _ _ _ _ z => z.elim⟩
  · refine ⟨B, M, st, ⟨c.nx, c.rt, c.bk, c.ct, c.rn⟩, fun c' fs dx ws g' M' t H' hx st' xd => ?_⟩
    have hf := hne c' fs g' hx
    subst hf
    refine ⟨true, by rw [Kx]; exact hc c' [] g' hx, fun _ a ha => ?_, fun z => Bool.noConfusion z⟩
    refine ⟨c', g', B, M', rfl, rfl, hx, st'.put i rfl ⟨rfl, fun z => absurd rfl z⟩, ⟨fun g2 M2 t2 H2 z q => ?_, c.rt, fun g2 M2 t2 H2 z q => ?_, fun g2 M2 t2 H2 z q => ?_, c.rn⟩⟩
    · exact c.nx _ M2 _ H2 z (q.put i rfl trivial)
    · exact c.bk _ M2 _ H2 z (q.put i rfl trivial)
    · exact c.ct _ M2 _ H2 z (q.put i rfl trivial)
/-- isinstance(e, C) there -/
theorem e_isE0 {cls dd : Addr} {fs : List (Str × D)} (b : InS0 X W S k N sc a c) (E : Erc0 W S c x) (Nn : Nm X i n) (hi : g[i]? = some (.exc a dd c fs)) (G : Ng X "isinstance") (hm : W.mg "isinstance" = none) (Gy : Ng X y) (hy : W.mg y = some (.ref cls))
    (hk : PySem.W.kitOne W.K (.ref (S.cX c)) (.ref cls) = some bb) : Fw.XE X S g (.Call (.Name "isinstance" p) [.Name n p2, .Name y pos] [] pos') (.bl bb) := by
  have mi := b.toKb.mg hm
  have my := b.toKb.mg hy
  obtain ⟨X0, oe, pn, rfl, hz, hv⟩ := b.ex
  have Kx : X0.K = W.K := congrArg Wd.K b.wd
  refine peI (pe_callB (call_isE (by rw [Kx]; exact E.ec) hz hv) G.gl mi (by decide +kernel) (pa_cons (pe_var Nn.n Nn.vis Nn.dbg Nn.cdt) (pa_cons (pe_glob (v := .ref cls) Gy.gl my rfl Gy.dbg) pa_nil))) fun σ H Q ⟨B, M, st, kk⟩ => ?_
  obtain ⟨o, ho, e1, _⟩ := st.sl i _ hi
  exact ⟨.ref a, by rw [ho, e1], .ref cls, .ref cls, bb, rfl, fun u z => z, by rw [Kx]; exact hk, kk _ H (Same.refl H) (.bl _)⟩
theorem e_isEB0 {T : String} {dd : Addr} {fs : List (Str × D)} (b : InS0 X W S k N sc a c) (E : Erc0 W S c x) (Nn : Nm X i n) (hi : g[i]? = some (.exc a dd c fs)) (G : Ng X "isinstance") (hm : W.mg "isinstance" = none) (Gy : Ng X y) (hy : W.mg y = none) (hB : bootBuiltins y = some (.type T))
    (hk : PySem.W.kitOne W.K (.ref (S.cX c)) (.type T) = some bb) (hyn : y ≠ "__name__" := by decide) : Fw.XE X S g (.Call (.Name "isinstance" p) [.Name n p2, .Name y pos] [] pos') (.bl bb) := by
  have mi := b.toKb.mg hm
  have my := b.toKb.mg hy
  obtain ⟨X0, oe, pn, rfl, hz, hv⟩ := b.ex
  have Kx : X0.K = W.K := congrArg Wd.K b.wd
  refine peI (pe_callB (call_isE (by rw [Kx]; exact E.ec) hz hv) G.gl mi (by decide +kernel) (pa_cons (pe_var Nn.n Nn.vis Nn.dbg Nn.cdt) (pa_cons (pe_bltn (v := .ty T) Gy.gl my hB rfl hyn Gy.dbg) pa_nil))) fun σ H Q ⟨B, M, st, kk⟩ => ?_
  obtain ⟨o, ho, e1, _⟩ := st.sl i _ hi
  exact ⟨.ref a, by rw [ho, e1], .ty T, .type T, bb, rfl, fun u z => z, by rw [Kx]; exact hk, kk _ H (Same.refl H) (.bl _)⟩
end
end Fw

set_option Elab.async false
set_option linter.all false
set_option maxRecDepth 100000
set_option maxHeartbeats 4000000
namespace Fw
open PySem L2 PyProof.Rows
/-! ### keywords -/
/-- a def with keyword-only defaults -/
theorem fd_mkK {K : PySem.W.Frag} {x qual : Str} {st : Stmt} {f D : Addr} {oc : Value} {od an : Option Addr} {osl : Array (Option Value)} {doc pm cdv ct : Value} {kws : List (Str × V)} (l : K.lookup f = some ⟨oc, od, .func (PySem.W.fnOf x qual (defArgs st) (defBody st) (defScope st) .none (.ref D) doc pm an cdv ct), osl⟩)
    (hq : ∀ q ∈ kws, ∃ u, PySem.W.nsIn K D q.1 = some (some u) ∧ RelV q.2 u) (c : PySem.W.codeIn K cdv qual = true) (k : PySem.W.keepIn K (.ref f) = true) : FunD K x qual (defArgs st) (defBody st) (defScope st) [] kws f (PySem.W.fnOf x qual (defArgs st) (defBody st) (defScope st) .none (.ref D) doc pm an cdv ct) :=
  ⟨⟨oc, od, .none, .ref D, doc, pm, an, cdv, ct, osl, rfl, l, c, .inl ⟨rfl, rfl⟩, .inr ⟨D, rfl, hq⟩⟩, k⟩
abbrev KwP (K : PySem.W.Frag) (fd : FuncData) (ps : List Str) (n : Nat) (ks : List Str) : Prop := KBn K fd ps n ks (fun us ws => us ++ ws) (fun vs zs => vs ++ zs)
/-- all keywords are written -/
theorem kw_all {K : PySem.W.Frag} {fd : FuncData} {ps ks : List Str} {n : Nat} (h : ∀ us ws : List Value, us.length = n → ws.length = ks.length → bindArgs fd ⟨us, ks.zip ws⟩ = pure (ps.zip (us ++ ws))) : KwP K fd ps n ks :=
  ⟨fun s us ws X l1 l2 => .of_eq (h us ws l1 l2), fun r1 r2 => r1.append r2⟩
structure FnK (W : Wd) (S : Sg) (k : Nat) (x : Str) (n : Nat) (ks : List Str) (R : List D → Out → Prop) : Prop where
  ex : ∃ f fd ps, FnOk W.P W.w W.K W.mg W.base (L2N.CX W.P W.w) k f fd ps (spOf S ps.length R) ∧ W.mg x = some (.ref f) ∧ PySem.W.keepIn W.K (.ref f) = true ∧ ps.length = n + ks.length ∧ KwP W.K fd ps n ks
structure MethK (W : Wd) (S : Sg) (c : Nat) (m : Str) (k : Nat) (ks : List Str) (R : List D → Out → Prop) : Prop where
  ex : ∃ q fd ps, Meth W.K (S.cO c) m q ∧ FnOk W.P W.w W.K W.mg W.base (L2N.CX W.P W.w) k q fd ps (spOf S ps.length R) ∧ ps.length = 1 + ks.length ∧ KwP W.K fd ps 1 ks
def XK (X : Cx) (S : Sg) (g : En) (kws : List Keyword) (ds : List D) : Prop := PK X kws fun t H Q => ∃ B M, Stt S B M g t H ∧ ∀ vs H', Same H H' → Reps S (hid M H') vs ds → Q vs H'
section
variable {X : Cx} {W : Wd} {S : Sg} {U : WX} {k j : Nat} {g : En} {P : Po} {e o a b c : Expr} {es : List Expr} {d d1 d2 d3 : D} {ds zs dd : List D} {x y z m : Str} {n i l c0 : Nat} {R : List D → Out → Prop} {pos p apos kpos px py pz pt : Pos} {ks : List Str} {kws : List Keyword} {nm : Option Str} {N : List Str} {sc : Scope} {fs : List (Str × D)} {fns : List Str}
theorem xk_one (he : Fw.XE X S g e d) : XK X S g [⟨nm, e, kpos⟩] [d] :=
  ⟨fun pos pins s σ H Q I ⟨B, M, st, kk⟩ => (pk_cons he pk_nil).run pos pins s σ H Q I ⟨B, M, st, fun v H1 e1 r => kk [v] H1 e1 (.cons r .nil)⟩⟩
/-- f(e, .., k = v) -/
theorem e_callK (C : Cc X W S k) (F : FnK W S j x n ks R) (G : Ng X x) (ha : XA X S g (e :: es) ds) (hkw : XK X S g kws zs) (hR : R (ds ++ zs) (.ok d)) (hn : ds.length = n := by rfl) (hz : zs.length = ks.length := by rfl) (hj : j ≤ k := by decide)
    (hall : (backToKw pos (keywordEach kws X.env)).all (·.1.isSome) = true := by rfl) (hks : (backToKw pos (keywordEach kws X.env)).filterMap (·.1) = ks := by rfl) (he : starEach (e :: es) X.env = (false, eval e X.env) :: starEach es X.env := by rfl)
    (hpl : ((backTo pos (starEach (e :: es) X.env)).any (·.1) || (backToKw pos (keywordEach kws X.env)).any (·.1.isNone)) = false := by rfl) : Fw.XE X S g (.Call (.Name x p) (e :: es) kws pos) d := by
  obtain ⟨f, fd, ps, F, hm, hk, hl, hb⟩ := F.ex
  obtain ⟨⟨w1, w2, c3, c4⟩, c1, c2⟩ := C
  subst w1
  refine peI (pe_callN (E := E0) F (c2.mono hj) G.gl hm hk hb passN ha hkw hall hks G.dbg he hpl) ?_
  intro σ H Q ⟨B, M, st, kk⟩
  refine ⟨B, M, st, fun vs H1 e1 r => ⟨B, M, st.mono e1, fun us H2 e2 r2 => ⟨by rw [r.length]; exact hn, by rw [r2.length]; exact hz, ?_⟩⟩⟩
  have r3 := (r.mono (hid_same e2)).append r2
  exact ⟨by rw [r3.length, List.length_append, hn, hz, hl], M, _, _, (st.mono (e1.trans e2)).trk, r3, hR, fun v H3 e3 r4 => kk v H3 ((e1.trans e2).trans e3) r4⟩
/-- o.m() -/
theorem e_meth0 {pl : Sem Bool} (C : Cc X W S k) (OC : ObC W S c0 x fns) (F : MethC W S c0 m j 1 dd R) (he : Fw.XE X S g o (.obj c0 fs)) (hl : fs.lookup m = none) (hR : R (.obj c0 fs :: dd) (.ok d)) (hj : j ≤ k := by decide)
    (ht : eval (.Call (.Attribute o m apos) [] [] pos) X.env = (do
      let ov ← eval o X.env
      standAt apos.atName
      let (f, first) ← holding [ov] (getMethod ov m pl)
      callWith pos f first (backTo pos (starEach [] X.env)) (backToKw pos (keywordEach [] X.env))) := by rfl) : Fw.XE X S g (.Call (.Attribute o m apos) [] [] pos) d := by
  obtain ⟨q, hq, F⟩ := F.ex
  have hcl := OC.cls
  rw [← C.kw] at hcl hq
  refine ⟨fun pins s σ H Q I w => ?_⟩
  obtain ⟨B, M, st, kk⟩ := w
  refine PySem.W.methodCall_KW (pl := pl) (thn (he.run pins s σ H (fun v H1 => Same H H1 ∧ Rep S (hid M H1) v (.obj c0 fs)) I ⟨B, M, st, fun v H1 e1 r => ⟨e1, r⟩⟩) fun u s1 ⟨v, H1, I1, rx, e1, r⟩ => ?_) ht
  have r0 := r
  cases r with
  | obj h rr =>
    rename_i a dx ws
    obtain rfl : u = Value.ref a := rx
    refine getmeth_ok I1 (hid_some h).2 hcl hq (rr.lookN hl) ?_
    refine PySem.W.callWith_K0 (first := [.ref a]) I1.kIn hq.kp ?_
    exact run_MQ (o := .ok d) (U := fun _ _ _ _ => False) (vs := [.ref a]) (us := [.ref a]) C takes0 F hj I1 (.cons rfl .nil) (st.mono e1).trk (.cons r0 .nil) rfl (by exact hR) (fun v H2 e2 r2 => kk v H2 (e1.trans e2) r2)
/-- o.m(k = v) -/
theorem e_methK {pl : Sem Bool} (C : Cc X W S k) (OC : ObC W S c0 x fns) (F : MethK W S c0 m j ks R) (he : Fw.XE X S g o (.obj c0 fs)) (hl : fs.lookup m = none) (hkw : XK X S g kws zs) (hR : R (.obj c0 fs :: zs) (.ok d)) (hz : zs.length = ks.length := by rfl) (hj : j ≤ k := by decide)
    (hall : (backToKw pos (keywordEach kws X.env)).all (·.1.isSome) = true := by rfl) (hks : (backToKw pos (keywordEach kws X.env)).filterMap (·.1) = ks := by rfl)
    (hpl : ((backTo pos (starEach [] X.env)).any (·.1) || (backToKw pos (keywordEach kws X.env)).any (·.1.isNone)) = false := by rfl)
    (ht : eval (.Call (.Attribute o m apos) [] kws pos) X.env = (do
      let ov ← eval o X.env
      standAt apos.atName
      let (f, first) ← holding [ov] (getMethod ov m pl)
      callWith pos f first (backTo pos (starEach [] X.env)) (backToKw pos (keywordEach kws X.env))) := by rfl) : Fw.XE X S g (.Call (.Attribute o m apos) [] kws pos) d := by
  obtain ⟨q, fd, ps, hq, F, hps, hb⟩ := F.ex
  have hcl := OC.cls
  rw [← C.kw] at hcl hq
  refine ⟨fun pins s σ H Q I w => ?_⟩
  obtain ⟨B, M, st, kk⟩ := w
  refine PySem.W.methodCall_KW (pl := pl) (thn (he.run pins s σ H (fun v H1 => Same H H1 ∧ Rep S (hid M H1) v (.obj c0 fs)) I ⟨B, M, st, fun v H1 e1 r => ⟨e1, r⟩⟩) fun u s1 ⟨v, H1, I1, rx, e1, r⟩ => ?_) ht
  have r0 := r
  cases r with
  | obj h rr =>
    rename_i a dx ws
    obtain rfl : u = Value.ref a := rx
    refine getmeth_ok I1 (hid_some h).2 hcl hq (rr.lookN hl) ?_
    refine PySem.W.callWith_KW0 (h₀ := X.base) (first := [.ref a]) I.ok.mod.kin hq.kp hall (thn (hkw.run pos pins s1 σ H1 (fun vs H2 => Same H1 H2 ∧ Reps S (hid M H2) vs zs) I1 ⟨B, M, st.mono e1, fun vs H2 e2 r2 => ⟨e2, r2⟩⟩) fun ws2 s2 ⟨vs2, H2, I2, rz, e2, r2⟩ => ⟨I2.kIn, ?_⟩) hpl
    rw [hks]
    obtain ⟨⟨w1, w2, c3, c4⟩, c1, c2⟩ := C
    subst w1
    have r3 : Reps S (hid M H2) (.ref a :: vs2) (.obj c0 fs :: zs) := .cons (r0.mono (hid_same e2)) r2
    exact run_fnN (E := E0) F (c2.mono hj) hb passN I2 (vs := [.ref a]) (us := [.ref a]) (.cons rfl .nil) rz rfl (by rw [r2.length]; exact hz) ⟨by rw [List.length_append, List.length_singleton, r2.length, hz, hps], M, _, _, (st.mono (e1.trans e2)).trk, r3, hR, fun v H3 e3 r4 => kk v H3 ((e1.trans e2).trans e3) r4⟩
/-- a, b, c = x, y, z with plain local names -/
theorem s_par3 {kt k2 : Nat} {pt2 : Pos} (b' : InB X W S k N sc U) (Nx : Nl X i x) (Ny : Nl X j y) (Nz : Nl X l z) (ha : Fw.XE X S g a d1) (hb : Fw.XE X S g b d2) (hc : Fw.XE X S g c d3) (h : P.nx (((g.set i (.v d1)).set j (.v d2)).set l (.v d3)))
    (hx : sc.names.lookup x = some .local := by rfl) (hy : sc.names.lookup y = some .local := by rfl) (hzz : sc.names.lookup z = some .local := by rfl) (hij : i ≠ j := by decide) (hil : i ≠ l := by decide) (hjl : j ≠ l := by decide)
    (hw : ∀ env : Env, env.scope = sc → swappedStores [.Tuple [.Name x px, .Name y py, .Name z pz] kt pt] (.Tuple [a, b, c] k2 pt2) env = pure (some [x, y, z]) := by exact (fun env h => by cases env; cases h; rfl))
    (hs : swapsWithSole [.Tuple [.Name x px, .Name y py, .Name z pz] kt pt] (.Tuple [a, b, c] k2 pt2) pos.line X.env = pure false := by rfl)
    (h1 : starEach [a, b, c] X.env = (false, eval a X.env) :: starEach [b, c] X.env := by rfl) (h2 : starEach [b, c] X.env = (false, eval b X.env) :: starEach [c] X.env := by rfl) (h3 : starEach [c] X.env = (false, eval c X.env) :: starEach [] X.env := by rfl) :
    XS X S U g (.Assign [.Tuple [.Name x px, .Name y py, .Name z pz] kt pt] (.Tuple [a, b, c] k2 pt2) pos) P :=
  psI (ps_par3 b'.C.calm b'.nd Nx.n Ny.n Nz.n hij hil hjl (by rw [b'.sc]; exact hx) (by rw [b'.sc]; exact hy) (by rw [b'.sc]; exact hzz) (a_cons ha (a_cons hb (a_cons hc a_nil h3) h2) h1) (hw _ b'.sc) hs) fun E σ H ⟨B, M, st, ct, _⟩ => ⟨B, M, st, fun vs H1 e1 r => by
    cases r with
    | cons r1 t =>
      obtain ⟨v, w, e2, r2, r3⟩ := t.two
      subst e2
      exact ⟨_, v, w, rfl, ct.nx _ M _ H1 h (((st.mono e1).set2 r1 r2).set _ r3)⟩⟩
end
end Fw

set_option Elab.async false
set_option linter.all false
set_option maxRecDepth 100000
set_option maxHeartbeats 4000000
namespace Fw
open PySem L2 PyProof.Rows
section
variable {X : Cx} {W : Wd} {S : Sg} {U : WX} {g : En} {P : Po} {e : Expr} {x : Str} {i : Nat} {a b : Int} {pos p : Pos}
/-- x += e, of numbers -/
theorem s_augAdd (C : Kb X W S) (N : Nl X i x) (hi : g[i]? = some (.v (.int a))) (he : Fw.XE X S g e (.int b)) (h : P.nx (g.set i (.v (.int (a + b))))) : XS X S U g (.AugAssign (.Name x p) .Add e pos) P :=
  psI (ps_aug C.nd N.n N.loc he ip_add N.fn) fun E σ H ⟨B, M, st, c, _⟩ => by
    obtain ⟨o, ho, v, e1, r⟩ := st.sl i _ hi
    cases r
    refine ⟨.int a, by rw [ho, e1], B, M, st, fun w H1 e2 r2 => ?_⟩
    cases r2
    exact ⟨a, b, rfl, rfl, c.nx _ M _ H1 h ((st.mono e2).set i (.int _))⟩
end
end Fw

set_option Elab.async false
set_option linter.all false
set_option maxRecDepth 100000
set_option maxHeartbeats 4000000
namespace Fw
open PySem L2 PyProof.Rows
/-! ### texts: `.str (tx l)`, l the code points -/
abbrev tx (l : List Nat) : Str := SX.S l
abbrev st (l : List Nat) : D := .str (tx l)
theorem line_of {n : Nat} (h : n ≤ 100000) : n ≤ sizeLine := by rw [sizeLine_eq]; omega
section
variable {X : Cx} {W : Wd} {S : Sg} {U : WX} {k : Nat} {g : En} {P : Po} {o e e2 : Expr} {es : List Expr} {d : D} {a b l : List Nat} {x y z : Str} {i j : Int} {n c : Nat} {pos p p2 apos : Pos} {bb : Bool}
theorem k_lenX (h : l.length ≤ 100000) : CallD X S (.builtin "len") [st l] (.int l.length) := by
  intro pins s σ H xs us Q I r ⟨M, _, q, K⟩
  obtain ⟨x', e, q1⟩ := q.one
  cases e
  cases q1
  exact call_len_str pins s σ H _ us Q I r ⟨_, rfl, by rw [SX.S_len]; exact line_of h, by rw [SX.S_len]; exact K _ H (Same.refl H) (.int _)⟩
theorem k_strI [bi : Bd i n] (h : n ≤ 1900) : CallD X S (.type "str") [.int i] (.str (Str.ofString (toString i))) := by
  intro pins s σ H xs us Q I r ⟨M, _, q, K⟩
  obtain ⟨x', e, q1⟩ := q.one
  cases e
  cases q1
  exact call_str_int pins s σ H _ us Q I r ⟨i, rfl, by have := log_bd bi; omega, K _ H (Same.refl H) (.str _)⟩
theorem k_intS (h : PySem.intText? x = some i) (hl : x.length ≤ 640) : CallD X S (.type "int") [.str x] (.int i) := by
  intro pins s σ H xs us Q I r ⟨M, _, q, K⟩
  obtain ⟨x', e, q1⟩ := q.one
  cases e
  cases q1
  exact call_int_str pins s σ H _ us Q I r ⟨x, i, rfl, h, hl, K _ H (Same.refl H) (.int _)⟩
theorem x_str (hl : l.length ≤ 100000) (h : atI l i = some c) : IxD X S (st l) (.int i) (st [c]) := by
  intro value slice pins s σ H x y u w Q I rx ry ⟨M, _, q, K⟩ hs
  obtain ⟨x', y', e, q1, q2⟩ := q.two
  cases e
  cases q1
  cases q2
  exact ix_str value slice pins s σ H _ _ u w Q I rx ry ⟨_, i, c, rfl, rfl, by rw [SX.S_len]; exact line_of hl, h, K _ H (Same.refl H) (.str _)⟩ hs
theorem e_cutX {ol oh : Option Expr} {ll hh : Option Int} (he : Fw.XE X S g e (.str x)) (hx : x.length ≤ 100000) (hl : XO X S g ol ll) (hu : XO X S g oh hh) : Fw.XE X S g (.Subscript e (.Slice ol oh none p2) pos) (.str (Txt.slice x ll hh)) :=
  peI (pe_slice C8.sl_txt he hl hu) fun σ H Q ⟨B, M, st, kk⟩ => ⟨B, M, st, fun v H1 e1 r => ⟨B, M, st.mono e1, fun H2 e2 => ⟨B, M, st.mono (e1.trans e2), fun H3 e3 => by
    cases r
    exact ⟨_, rfl, line_of hx, kk _ H3 ((e1.trans e2).trans e3) (.str _)⟩⟩⟩⟩
/-- x[i:] -/
theorem e_from (he : Fw.XE X S g e (st l)) (hx : l.length ≤ 100000) (hl : Fw.XE X S g e2 (.int i)) (h0 : 0 ≤ i) : Fw.XE X S g (.Subscript e (.Slice (some e2) none none p2) pos) (st (l.drop i.toNat)) := by
  have := e_cutX (p2 := p2) (pos := pos) he (by rw [SX.S_len]; exact hx) (o_some hl) o_none
  rw [SX.slice_from h0] at this
  exact this
/-- x[:i] -/
theorem e_upto (he : Fw.XE X S g e (st l)) (hx : l.length ≤ 100000) (hl : Fw.XE X S g e2 (.int i)) (h0 : 0 ≤ i) : Fw.XE X S g (.Subscript e (.Slice none (some e2) none p2) pos) (st (l.take i.toNat)) := by
  have := e_cutX (p2 := p2) (pos := pos) he (by rw [SX.S_len]; exact hx) o_none (o_some hl)
  rw [SX.slice_to h0] at this
  exact this
theorem b_catS (h : a.length + b.length ≤ 100000) : BinD X S (binaryOp .Add) (st a) (st b) (st (a ++ b)) := by
  intro pins s σ H x y u w Q I rx ry ⟨M, _, q, K⟩
  obtain ⟨x', y', e, q1, q2⟩ := q.two
  cases e
  cases q1
  cases q2
  exact op_add_str pins s σ H _ _ u w Q I rx ry ⟨_, _, rfl, rfl, by rw [SX.S_len, SX.S_len]; exact line_of h, by rw [SX.S_cat]; exact K _ H (Same.refl H) (.str _)⟩
/-- x * n -/
theorem b_repS (h2 : 2 ≤ i) (hi : i ≤ 1000) (hl : l.length ≤ 100) (h0 : l ≠ []) : BinD X S (binaryOp .Mult) (st l) (.int i) (st (List.replicate i.toNat l).flatten) := by
  intro pins s σ H x y u w Q I rx ry ⟨M, _, q, K⟩
  obtain ⟨x', y', e, q1, q2⟩ := q.two
  cases e
  cases q1
  cases q2
  obtain ⟨t, rfl⟩ := rx
  obtain ⟨t', rfl⟩ := ry
  have n1 : ¬ i < 1 := by omega
  have n2 : (i == 1 || (tx l).length == 0) = false := by
    rw [SX.S_len]
    have a1 : (i == 1) = false := by simp; omega
    have a2 : (l.length == 0) = false := by simp; exact h0
    rw [a1, a2]; rfl
  have big : l.length * i.toNat ≤ 100000 := by
    have := Nat.mul_le_mul hl (show i.toNat ≤ 1000 by omega)
    omega
  refine PySem.P.mul_str ?_ (fun _ _ => ?_) (fun _ _ => ?_) ?_
  · have a1 : ¬ i < -(2 ^ 63 : Int) := by omega
    have a2 : ¬ i ≥ 2 ^ 63 := by omega
    rw [decide_eq_false a1, decide_eq_false a2]; rfl
  · rw [SX.S_len]
    have : (1000 : Int) ≤ (2 ^ 63 - 1) / i := (Int.le_ediv_iff_mul_le (by omega)).mpr (by omega)
    omega
  · rw [SX.S_len]
    have := line_of big
    exact decide_eq_false (by omega)
  · rw [if_neg n1, n2, if_neg Bool.false_ne_true]
    have e : (⟨(List.replicate i.toNat (tx l).cps).foldl (· ++ ·) #[]⟩ : Str) = tx (List.replicate i.toNat l).flatten := by
      refine TL.ext_tl ?_
      have key : ∀ (n : Nat) (acc : Array Nat), ((List.replicate n (tx l).cps).foldl (· ++ ·) acc).toList = acc.toList ++ (List.replicate n l).flatten := fun n => by
        induction n with
        | zero => intro acc; simp
        | succ n ih =>
          intro acc
          rw [List.replicate_succ, List.foldl_cons, ih, List.replicate_succ, List.flatten_cons, Array.toList_append, List.append_assoc]
      show ((List.replicate i.toNat (tx l).cps).foldl (· ++ ·) #[]).toList = _
      rw [key]
      rfl
    rw [e]
    refine ⟨?_, ⟨.str (tx (List.replicate i.toNat l).flatten), H, I.tok _, ⟨_, rfl⟩, K _ H (Same.refl H) (.str _)⟩⟩
    rw [SX.S_len]
    have : (List.replicate i.toNat l).flatten.length = i.toNat * l.length := by simp
    rw [this, Nat.mul_comm]
    exact line_of big
/-! methods of texts -/
theorem e_m0 {id : String} {m : Str} {r : V → List V → Hp → VK → Prop} {v : V} (slot : Slot "str" m id) (ty : typeOf (.builtin id) = pure (.type "method_descriptor")) (rule : MtR X id r) (ho : Fw.XE X S g o (.str x)) (hr : ∀ (H : Hp) (Q : VK), Q v H → r (.str x) [] H Q) (hv : ∀ H, Rep S H v d)
    (hbase : attributeBase o m X.env (eval o X.env) = eval o X.env := by rfl) (hline : (apos.endLine == pos.line) = true := by rfl) : Fw.XE X S g (.Call (.Attribute o m apos) [] [] pos) d :=
  peI (pe_m0 slot ty rule ho hbase hline) fun σ H Q ⟨B, M, st, kk⟩ => ⟨B, M, st, fun w H1 e1 r1 => by
    cases r1
    exact ⟨⟨_, rfl⟩, hr H1 Q (kk _ H1 e1 (hv _))⟩⟩
theorem e_m1 {id : String} {m : Str} {r : V → List V → Hp → VK → Prop} {v : V} (slot : Slot "str" m id) (ty : typeOf (.builtin id) = pure (.type "method_descriptor")) (rule : MtR X id r) (ho : Fw.XE X S g o (.str x)) (ha : Fw.XE X S g e (.str y)) (hr : ∀ (H : Hp) (Q : VK), Q v H → r (.str x) [.str y] H Q) (hv : ∀ H, Rep S H v d)
    (hs : starEach [e] X.env = [(false, eval e X.env)] := by rfl) (hbase : attributeBase o m X.env (eval o X.env) = eval o X.env := by rfl) (hline : (apos.endLine == pos.line) = true := by rfl) : Fw.XE X S g (.Call (.Attribute o m apos) [e] [] pos) d :=
  peI (pe_m1 slot ty rule ho ha hs hbase hline) fun σ H Q ⟨B, M, st, kk⟩ => ⟨B, M, st, fun w H1 e1 r1 => by
    cases r1
    exact ⟨⟨_, rfl⟩, B, M, st.mono e1, fun w2 H2 e2 r2 => by
      cases r2
      exact hr H2 Q (kk _ H2 (e1.trans e2) (hv _))⟩⟩
theorem e_isdigit (ho : Fw.XE X S g o (.str x)) (hbase : attributeBase o "isdigit" X.env (eval o X.env) = eval o X.env := by rfl) (hline : (apos.endLine == pos.line) = true := by rfl) : Fw.XE X S g (.Call (.Attribute o "isdigit" apos) [] [] pos) (.bl (Txt.isdigit x)) :=
  e_m0 PySem.F.slot_str_isdigit PySem.F.type_str_isdigit mt_isdigit ho (fun H Q q => ⟨x, rfl, rfl, trivial, q⟩) (fun _ => .bl _) hbase hline
theorem e_startswith (ho : Fw.XE X S g o (.str x)) (ha : Fw.XE X S g e (.str y)) (hs : starEach [e] X.env = [(false, eval e X.env)] := by rfl) (hbase : attributeBase o "startswith" X.env (eval o X.env) = eval o X.env := by rfl) (hline : (apos.endLine == pos.line) = true := by rfl) : Fw.XE X S g (.Call (.Attribute o "startswith" apos) [e] [] pos) (.bl (Txt.startswith x y)) :=
  e_m1 PySem.F.slot_str_startswith PySem.F.type_str_startswith mt_startswith ho ha (fun H Q q => ⟨x, y, rfl, rfl, q⟩) (fun _ => .bl _) hs hbase hline
theorem e_find (ho : Fw.XE X S g o (.str x)) (ha : Fw.XE X S g e (.str y)) (hs : starEach [e] X.env = [(false, eval e X.env)] := by rfl) (hbase : attributeBase o "find" X.env (eval o X.env) = eval o X.env := by rfl) (hline : (apos.endLine == pos.line) = true := by rfl) : Fw.XE X S g (.Call (.Attribute o "find" apos) [e] [] pos) (.int (Txt.find x y)) :=
  e_m1 PySem.F.slot_str_find PySem.F.type_str_find mt_find ho ha (fun H Q q => ⟨x, y, rfl, rfl, q⟩) (fun _ => .int _) hs hbase hline
theorem e_removeprefix (ho : Fw.XE X S g o (.str x)) (ha : Fw.XE X S g e (.str y)) (hx : x.length ≤ 100000) (hs : starEach [e] X.env = [(false, eval e X.env)] := by rfl) (hbase : attributeBase o "removeprefix" X.env (eval o X.env) = eval o X.env := by rfl) (hline : (apos.endLine == pos.line) = true := by rfl) : Fw.XE X S g (.Call (.Attribute o "removeprefix" apos) [e] [] pos) (.str (Txt.removeprefix x y)) :=
  e_m1 PySem.F.slot_str_removeprefix PySem.F.type_str_removeprefix mt_removeprefix ho ha (fun H Q q => ⟨x, y, rfl, rfl, line_of hx, q⟩) (fun _ => .str _) hs hbase hline
/-- x.split(y) -/
theorem n_split (ho : Fw.XE X S g o (.str x)) (ha : Fw.XE X S g e (.str y)) (hx : x.length ≤ 90000) (hy : (y.length == 0) = false := by rfl) (hs : starEach [e] X.env = [(false, eval e X.env)] := by rfl) (hbase : attributeBase o "split" X.env (eval o X.env) = eval o X.env := by rfl) (hline : (apos.endLine == pos.line) = true := by rfl) : XN X S g (.Call (.Attribute o "split" apos) [e] [] pos) ((Txt.split x y).map D.str) :=
  peI (pe_split ho ha hs hbase hline) fun σ H Q ⟨B, M, st, kk⟩ => ⟨B, M, st, fun w H1 e1 r1 => by
    cases r1
    exact ⟨⟨_, rfl⟩, B, M, st.mono e1, fun w2 H2 e2 r2 => by
      cases r2
      have hl := line_of (n := x.length + 2) (by omega)
      refine ⟨x, y, rfl, rfl, hy, hl, fun p hp => ?_⟩
      refine kk p _ _ ((e1.trans e2).free hp) ((e1.trans e2).trans (same_upd hp)) upd_same (new_list hp ?_)
      have key : ∀ ys : List Str, Reps S (hid M H2) (ys.map V.str) (ys.map D.str) := fun ys => by
        induction ys with
        | nil => exact .nil
        | cons y ys ih => exact .cons (.str _) ih
      exact key _⟩⟩
/-- x.partition(y) -/
theorem e_partition (ho : Fw.XE X S g o (.str x)) (ha : Fw.XE X S g e (.str y)) (hx : x.length ≤ 100000) (hy : (y.length == 0) = false := by rfl) (hs : starEach [e] X.env = [(false, eval e X.env)] := by rfl) (hbase : attributeBase o "partition" X.env (eval o X.env) = eval o X.env := by rfl) (hline : (apos.endLine == pos.line) = true := by rfl) :
    Fw.XE X S g (.Call (.Attribute o "partition" apos) [e] [] pos) (.tup [.str (Txt.partition x y).1, .str (Txt.partition x y).2.1, .str (Txt.partition x y).2.2]) :=
  peI (pe_partition ho ha hs hbase hline) fun σ H Q ⟨B, M, st, kk⟩ => ⟨B, M, st, fun w H1 e1 r1 => by
    cases r1
    exact ⟨⟨_, rfl⟩, B, M, st.mono e1, fun w2 H2 e2 r2 => by
      cases r2
      refine ⟨x, y, rfl, rfl, hy, line_of hx, fun p hp => ?_⟩
      exact kk _ _ ((e1.trans e2).trans (same_upd hp)) (.tup (SqT.of (hid_of ((st.mono (e1.trans e2)).nm hp) upd_same)) (.cons (.str _) (.cons (.str _) (.cons (.str _) .nil))))⟩⟩
/-- the truth of a text -/
theorem t_text (he : Fw.XE X S g e (.str x)) (hx : x.length ≤ 100000) (ht : ∀ whole, isTrue e X.env whole = (do let v ← whole; standAt e.pos; holding [v] (truthy v)) := by exact fun _ => rfl) : XT X S g e ((x.length : Int) != 0) :=
  ptI (pt_truth he ht) fun σ H Q ⟨B, M, st, k⟩ => ⟨B, M, st, fun v H1 e1 r => by
    cases r
    exact ⟨_, ⟨line_of hx, rfl⟩, k H1 e1⟩⟩
/-! for over a text -/
theorem walks_str : Walks S (Its (tx l)) (fun _ => True) l.length (fun i => st [l.getD i 0]) where
  mono := fun _ _ _ _ => trivial
  go := fun _ i _ _ hi => by
    show i < (tx l).cps.size
    simpa using hi
  stop := fun _ i _ _ hi => by
    show (tx l).cps.size ≤ i
    simpa using hi
  yld := fun M i H x H' _ _ hi ⟨e, c, hc, y⟩ => by
    subst e
    subst y
    have : l.getD i 0 = c := by
      have e2 : (tx l).cps[i]? = l[i]? := by simp
      rw [e2] at hc
      rw [List.getD_eq_getElem?_getD, hc]
      rfl
    rw [this]
    exact ⟨Same.refl _, .str _⟩
theorem i_str {tg : Expr} (he : Fw.XE X S g e (st l)) : XI X S g tg e l.length (fun i => st [l.getD i 0]) :=
  piI (pi_str he) fun σ H R ⟨B, M, st', kk⟩ => ⟨B, M, st', fun v H1 e1 r => by
    cases r
    exact ⟨_, rfl, kk _ (fun _ => True) H1 e1 walks_str trivial⟩⟩
/-! f-strings -/
theorem e_fmtI [bi : Bd i n] (he : Fw.XE X S g e (.int i)) (h : n ≤ 1900) : Fw.XE X S g (.FormattedValue e (-1) none pos) (.str (Str.ofString (toString i))) :=
  peI (pe_fmt he) fun σ H Q ⟨B, M, st, kk⟩ => ⟨B, M, st, fun v H1 e1 r => by
    cases r
    exact .inr ⟨i, rfl, by have := log_bd bi; omega, kk _ H1 e1 (.str _)⟩⟩
/-- the parts of an f-string -/
inductive XJ (X : Cx) (S : Sg) (g : En) : List Expr → List (List Nat) → Prop
  | nil : XJ X S g [] []
  | cons {e : Expr} {a : List Nat} {es : List Expr} {as : List (List Nat)} (h : Fw.XE X S g e (st a)) (t : XJ X S g es as) : XJ X S g (e :: es) (a :: as)
theorem pj_of {as : List (List Nat)} (h : XJ X S g es as) : PJ X es (as.map fun a => fun t H Q => ∃ B M, Stt S B M g t H ∧ ∀ v H', Same H H' → Rep S (hid M H') v (Fw.st a) → Q v H') := by
  induction h with
  | nil => exact .nil
  | cons h t ih => exact .cons h ih
theorem js_run {as : List (List Nat)} {B : Bs} {M : List Addr} {t : L2.St} {Q : Str → Hp → Prop} : ∀ (acc : List Nat) (H : Hp), (acc ++ as.flatten).length ≤ 100000 → Stt S B M g t H → (∀ H', Same H H' → Q (tx (acc ++ as.flatten)) H') →
    tJs (as.map fun a => fun t H Q => ∃ B M, Stt S B M g t H ∧ ∀ v H', Same H H' → Rep S (hid M H') v (Fw.st a) → Q v H') (tx acc) t H Q := by
  induction as with
  | nil =>
    intro acc H hl st q
    have := q H (Same.refl H)
    rw [List.flatten_nil, List.append_nil] at this
    exact this
  | cons a as ih =>
    intro acc H hl st q
    refine ⟨B, M, st, fun v H1 e1 r => ?_⟩
    cases r
    refine ⟨_, rfl, ?_, ?_⟩
    · rw [SX.S_cat, SX.S_len]
      refine line_of ?_
      rw [List.flatten_cons, ← List.append_assoc, List.length_append] at hl
      omega
    · rw [SX.S_cat]
      refine ih (acc ++ a) H1 ?_ (st.mono e1) fun H2 e2 => ?_
      · rw [List.append_assoc, ← List.flatten_cons]; exact hl
      · rw [List.append_assoc, ← List.flatten_cons]; exact q H2 (e1.trans e2)
theorem e_js {e1 : Expr} {as : List (List Nat)} (h : XJ X S g (e :: e1 :: es) as) (hl : as.flatten.length ≤ 100000) : Fw.XE X S g (.JoinedStr (e :: e1 :: es) pos) (Fw.st as.flatten) :=
  peI (pe_joined (pj_of h)) fun σ H Q ⟨B, M, st, kk⟩ => js_run [] H (by simpa using hl) st fun H' e' => kk _ H' e' (.str _)
end
end Fw

set_option Elab.async false
set_option linter.all false
set_option maxRecDepth 100000
set_option maxHeartbeats 4000000
namespace Fw
open PySem L2 PyProof.Rows
/-! ### classmethods -/
def spC (S : Sg) (A : Addr) (n : Nat) (R : List D → Out → Prop) : Sp := fun vs H Q E => ∃ ws M ds o, vs = .ref A :: ws ∧ ws.length + 1 = n ∧ (∀ a ∈ M, H a ≠ none) ∧ Reps S (hid M H) ws ds ∧ R ds o ∧ OutK S H M Q E o
theorem def_okC {W : Wd} {S : Sg} {A : Addr} {x qual : Str} {st : Stmt} {dvs : List V} {f : Addr} {fd : FuncData} {N ps : List Str} {k : Nat} {R : List D → Out → Prop} (F : Fd W.K x qual st dvs f fd) (hK : W.K = S.K) (sc : FnScope N ps (defScope st))
    (body : ∀ (X : Cx) (U : WX) (ds : List D) (o : Out), InB X W S k N (defScope st) U → R ds o → XB X S U (.exc A 0 0 [] :: enOf N.tail.length ds) (defBody st) (poOf o)) :
    FnOk W.P W.w W.K W.mg W.base (L2N.CX W.P W.w) (k + 1) f fd ps (spC S A ps.length R) := by
  obtain ⟨oc, od, dV, kV, doc, pm, an, cdv, ct, osl, rfl, lk, hcd, _, _⟩ := F.ex
  refine fn_of lk hcd sc (fun vs H Q E ⟨_, _, _, _, e, hl, _⟩ => by rw [e, List.length_cons, hl]) (fun B outer s H vs Q E hr h => ?_)
  obtain ⟨ws, M, ds, o, rfl, hl, tr, r, hR, ho⟩ := h
  refine ⟨_, body _ (fun cls d _ H => E cls d H) ds o ⟨⟨⟨rfl, hK, passes_of rfl, sc.nd⟩, rfl, rfl, fun _ => rfl⟩, ⟨⟨rfl, hK, passes_of rfl, sc.nd⟩, rfl, hr⟩, L2N.takes_of rfl rfl rfl rfl, rfl, rfl⟩ hR, ?_⟩
  refine ⟨⟨H, M, fun _ => True, fun _ _ _ _ => trivial⟩, M, stt_start1 (Same.refl H) (fun _ h => h) (fun _ h => .inl h) tr trivial ⟨rfl, fun z => absurd rfl z⟩ r, ?_, ?_⟩
  · cases o with
    | ok d =>
      refine ⟨fun g M' t H' hz st => ?_, fun v H' d' hz e r' => ?_, fun _ _ _ _ z => z.elim, fun _ _ _ _ z => z.elim, fun _ _ _ z => z.elim⟩
      · have hz' : d = .non := hz
        subst hz'
        exact ho .non H' st.same .non
      · have hz' : d' = d := hz
        subst hz'
        exact ho v H' e r'
    | err c fs => exact ⟨fun _ _ _ _ z => z.elim, fun _ _ _ z => z.elim, fun _ _ _ _ z => z.elim, fun _ _ _ _ z => z.elim, fun _ _ _ z => z.elim⟩
    | new d => exact ⟨fun _ _ _ _ z => z.elim, fun _ _ _ z => z.elim, fun _ _ _ _ z => z.elim, fun _ _ _ _ z => z.elim, fun p H' d' hz e hp nw => by
        have hz' : d' = d := hz
        subst hz'
        exact ho p H' hp e nw⟩
  · intro c fs dx ws g M' t H' hx st xd
    cases o with
    | ok d => exact hx.elim
    | new d => exact hx.elim
    | err c' fs' =>
      obtain ⟨rfl, rfl⟩ := hx
      exact ho dx ws H' st.same (fun h => let ⟨p, q, r⟩ := xd h; ⟨p, q, r.mono st.out⟩)
/-- the classmethod m of the class at A -/
structure ClsM (W : Wd) (S : Sg) (A : Addr) (m : Str) (k n : Nat) (R : List D → Out → Prop) : Prop where
  ex : ∃ mc p q fd ps, ClX.CRead W.K A mc ∧ ClX.CMet W.K A mc m p q ∧ FnOk W.P W.w W.K W.mg W.base (L2N.CX W.P W.w) k q fd ps (spC S A ps.length R) ∧ ps.length = n + 1 ∧ Binds W.K fd ps []
section
variable {X : Cx} {W : Wd} {S : Sg} {U : WX} {k j : Nat} {g : En} {P : Po} {o e : Expr} {es : List Expr} {d : D} {ds dd : List D} {x y m : Str} {i n c : Nat} {pos p apos : Pos} {A : Addr} {R : List D → Out → Prop} {ou : Out} {z px py po : Int}
theorem run_SRc {sp : Sp} {q : Addr} {pins : List (Addr × Obj)} {σ : L2.St} {H : Hp} {s : Shared} {Q : VK} {ws : List Value} {vs : List V} (U : WX) (F : FnR X.prog X.w X.K X.mg X.base (L2N.CX X.prog X.w) k q sp) (hr : Room k X.A) (tk : L2N.Takes X U)
    (I : Inv X pins σ H s) (r : Vals vs ws) (h : sp vs H Q (WE U σ)) : codeAny (model X.prog X.w) X.A (.call (.ref q) ⟨ws, []⟩) (fun r s' => match r with | .ok (.ret v) => EP X pins σ Q v s' | .ok _ => False | .error e => X.xe e s') s := by
  refine codeAny_mono (F X.A X.stack s H ws vs Q (WE U σ) hr I.env0 r h) fun r s' w => ?_
  cases r with
  | error e => exact L2N.passAt tk σ pins H s e s' I w
  | ok fl =>
    cases fl with
    | ret u => exact I.after w
    | next => exact w.elim
    | brk => exact w.elim
    | cont => exact w.elim
theorem q_cmeth {pl : Sem Bool} (C : Cc X W S k) (tk : L2N.Takes X U) (F : ClsM W S A m j n R) (G : Ng X x) (gA : W.mg x = some (.ref A)) (ha : XA X S g (e :: es) ds) (hR : R ds ou) (hn : ds.length = n := by rfl) (hj : j ≤ k := by decide)
    (hst : starEach (e :: es) X.env = (false, eval e X.env) :: starEach es X.env := by rfl) (hpl : (backTo pos (starEach es X.env)).any (·.1) = false := by rfl)
    (ht : eval (.Call (.Attribute (.Name x p) m apos) (e :: es) [] pos) X.env = (do
      let ov ← eval (.Name x p) X.env
      standAt apos.atName
      let (f, first) ← holding [ov] (getMethod ov m pl)
      callWith pos f first (backTo pos (starEach (e :: es) X.env)) (backToKw pos (keywordEach [] X.env))) := by rfl) : XQ X S U g (.Call (.Attribute (.Name x p) m apos) (e :: es) [] pos) ou := by
  obtain ⟨mc, pr, q, fd, ps, r, c, F, hl, hb⟩ := F.ex
  have gX := C.toKb.mg gA
  obtain ⟨⟨w1, w2, c3, c4⟩, c1, c2⟩ := C
  subst w1
  refine ⟨fun pins s σ H Q I w => ?_⟩
  obtain ⟨B, M, st, kk⟩ := w
  refine PySem.W.methodCall_KW (pl := pl) (ld_glob I G.gl gX ?_ G.dbg) ht
  refine ClX.getmethcm_ok I r c fun s2 I2 => ?_
  refine ClX.callwith_cm I2 (ClX.base_none I (Nat.le_refl _)) c.fi (thn (ha.run pos _ s2 σ H (fun vs H1 => Same H H1 ∧ Reps S (hid M H1) vs ds) I2 ⟨B, M, st, fun vs H1 e1 r => ⟨e1, r⟩⟩) fun us s3 ⟨vs, H2, I3, rv, e2, rr⟩ => ⟨⟨ClX.pin_at I3, I3.kIn⟩, ?_⟩) hst hpl
  have F' := (F.raw hb .nil).imp (sp' := fun vs H Q E => spC S A ps.length R (vs ++ []) H Q E) fun vs H Q E h => h
  have z := wpAny_call (PySem.W.method_call (ClX.pin_at I3) (run_SRc (vs := .ref A :: vs) (ws := .ref A :: us) U F' (c2.mono hj) tk I3 (.cons rfl rv) ⟨vs, M, ds, ou, by rw [List.append_nil], by rw [rr.length, hn, hl], (st.mono e2).trk, rr, hR, outk_mono e2 kk⟩))
  exact thn z fun _ _ y => ClX.unpinE y
/-- cls(e, ..), cls a name for the class of points -/
theorem q_ptc {R : Int → Int → Int → Out → Prop} (C : Cc X W S k) (tk : L2N.Takes X U) (F : PtI W S j n dd R) (N : Nm X i x) (hi : g[i]? = some (.exc S.cP 0 0 [])) (ha : XA X S g (e :: es) ds) (hd : ds ++ dd = [.int px, .int py, .int po]) (hR : R px py po ou) (hO : outP ou = true := by rfl) (hj : j + 1 ≤ k := by decide)
    (ht : eval (.Call (.Name x p) (e :: es) [] pos) X.env = (do callWith pos (← eval (.Name x p) X.env) [] (backTo pos (starEach (e :: es) X.env)) (backToKw pos (keywordEach [] X.env))) := by rfl)
    (he : starEach (e :: es) X.env = (false, eval e X.env) :: starEach es X.env := by rfl) (hpl : (backTo pos (starEach es X.env)).any (·.1) = false := by rfl) : XQ X S U g (.Call (.Name x p) (e :: es) [] pos) ou := by
  obtain ⟨f, fd, ps, mk, F1, hl, dvs, us, hb, hv, hdd⟩ := F.ex
  have gC := F.gC
  obtain ⟨⟨w1, w2, c3, c4⟩, c1, c2⟩ := C
  subst w1
  refine ⟨fun pins s σ H Q I w => ?_⟩
  obtain ⟨B, M, st, kk⟩ := w
  obtain ⟨ov, ho, e0, _⟩ := st.sl i _ hi
  refine PyProof.Rows.Call_ (thn ((pe_var N.n N.vis N.dbg N.cdt).run pins s σ H (fun v H1 => v = .ref S.cP ∧ H1 = H) I ⟨.ref S.cP, by rw [ho, e0], rfl, rfl⟩) fun u s0 ⟨v, H0, I0, rx, e3, e4⟩ => ?_) ht
  subst e3
  subst e4
  obtain rfl : u = Value.ref S.cP := rx
  refine PySem.W.callWith_K (h₀ := X.base) I.ok.mod.kin mk.kp (wpAny_mono (ha.run pos pins s0 σ H0 (fun vs H1 => Same H0 H1 ∧ Reps S (hid M H1) vs ds) I0 ⟨B, M, st, fun vs H1 e1 r => ⟨e1, r⟩⟩) (fun ws s1 w => ?_) fun _ _ z => z) he hpl
  obtain ⟨vs, H1, I1, r1, e1, rr⟩ := w
  have r3 := rr.append (hdd (hid M H1))
  rw [hd] at r3
  refine ⟨I1.kIn, made_run mk F1 (c2.mono hj) hb hv tk I1 r1 fun a dx ha hdx ne => ⟨a, dx, px, py, po, ou, by rw [r3.three], ne, upd_same, by rw [upd_ne ne]; exact upd_same, hR, ?_⟩⟩
  have st1 := st.mono e1
  have hs : Same H1 (hid [a, dx] (upd (upd H1 dx (.own a)) a (.ins S.cP dx []))) := fun b u hb => by
    have n1 := ne_of_none hb ha
    have n2 := ne_of_none hb hdx
    refine hid_of (fun z => ?_) (by rw [upd_ne n1, upd_ne n2]; exact hb)
    rcases List.mem_cons.mp z with z | z
    · exact n1 z
    · exact n2 (List.mem_singleton.mp z)
  cases ou with
  | ok d =>
    cases d with
    | pt x y v =>
      intro us2 H2 e2 sl h1 h2 h3
      refine ⟨rfl, kk _ H2 (e1.trans (hs.trans e2)) (.pt (dx := dx) ?_ h1 h2 h3)⟩
      rcases sl with ⟨s1, s2⟩ | ⟨s1, s2⟩
      · exact .inl ⟨hid_of (st1.nm ha) s1, s2⟩
      · exact .inr ⟨hid_of (st1.nm ha) s1, hid_of (st1.nm hdx) s2⟩
    | _ => cases hO
  | new d => cases hO
  | err c fs =>
    intro M' dd' us2 H2 e2 xd
    refine kk dd' us2 H2 (e1.trans (hs.trans e2)) (fun hq => ?_)
    obtain ⟨hn, hw, rf⟩ := xd hq
    exact ⟨e1.free (hs.free hn), hw, rf.ints hO⟩
/-- a number of the module -/
theorem e_gint {t : Tok} (C : Kb X W S) (G : Ng X x) (hm : W.mg x = some (.int z t)) : Fw.XE X S g (.Name x p) (.int z) :=
  peI (pe_glob (v := .int z) G.gl (C.mg hm) ⟨t, rfl⟩ G.dbg) fun σ H Q ⟨B, M, st, kk⟩ => kk _ H (Same.refl H) (.int _)
end
end Fw

set_option Elab.async false
set_option linter.all false
set_option maxRecDepth 100000
set_option maxHeartbeats 4000000
namespace Fw
open PySem L2 PyProof.Rows
/-! ### values that are new -/
def XF (X : Cx) (S : Sg) (g : En) (e : Expr) (d : D) : Prop := PE X e fun t H Q => ∃ B M, Stt S B M g t H ∧ ∀ p H', H p = none → Same H H' → NewAt S M H' p d → Q (.ref p) H'
/-- what a new thing holds does not reach an instance of the class c -/
def PastIn (S : Sg) (c : Nat) : D → Prop
  | .lst ds => Pasts S c ds
  | .obj _ fs => PastF S c fs
  | _ => False
mutual
/-- data without lists and instances (points may be there) -/
def pureD : D → Bool
  | .lst _ => false
  | .obj _ _ => false
  | .tup xs => pureDs xs
  | _ => true
def pureDs : List D → Bool
  | [] => true
  | d :: ds => pureD d && pureDs ds
end
section
variable {S : Sg} {H : Hp} {M : List Addr} {l : Addr} {xs : List V}
theorem hid_lst {b : Addr} {o : HO} (hl : H l = some (.lst xs)) (hb : ∀ ys, o ≠ .lst ys) (h : hid M H b = some o) : hid (l :: M) H b = some o := by
  obtain ⟨h1, h2⟩ := hid_some h
  refine hid_of (fun z => ?_) h2
  rcases List.mem_cons.mp z with z | z
  · rw [z, hl] at h2
    cases h2
    exact hb _ rfl
  · exact h1 z
theorem tup_hid {b : Addr} {ys : List V} (hl : H l = some (.lst xs)) (h : SqT S.K (hid M H) b ys) : SqT S.K (hid (l :: M) H) b ys := h.imp (fun z => by
  rcases z with z | z
  · exact .inl (hid_lst hl (fun ys z => nomatch z) z)
  · obtain ⟨o', z⟩ := z
    exact .inr ⟨o', hid_lst hl (fun ys z => nomatch z) z⟩) id
theorem slt_hid {b C dx : Addr} {vs : List (Option V)} (hl : H l = some (.lst xs)) (h : SlX.Slt (hid M H) b C dx vs) : SlX.Slt (hid (l :: M) H) b C dx vs :=
  h.elim (fun z => .inl ⟨hid_lst hl (fun ys z => nomatch z) z.1, z.2⟩) fun z => .inr ⟨hid_lst hl (fun ys z => nomatch z) z.1, hid_lst hl (fun ys z => nomatch z) z.2⟩
theorem pure_tup {ds : List D} (q : pureD (.tup ds) = true) : pureDs ds = true := by unfold pureD at q; exact q
theorem pure_lst {ds : List D} (q : pureD (.lst ds) = true) : False := by unfold pureD at q; cases q
theorem pure_obj {c : Nat} {fs : List (Str × D)} (q : pureD (.obj c fs) = true) : False := by unfold pureD at q; cases q
theorem pure_cons {d : D} {ds : List D} (q : pureDs (d :: ds) = true) : pureD d = true ∧ pureDs ds = true := by unfold pureDs at q; exact Bool.and_eq_true_iff.mp q
mutual
/-- such data stand when a list is hidden -/
theorem Rep.pure (hl : H l = some (.lst xs)) : ∀ {v : V} {d : D}, Rep S (hid M H) v d → pureD d = true → Rep S (hid (l :: M) H) v d
  | _, _, .non, _ => .non
  | _, _, .bl b, _ => .bl b
  | _, _, .int i, _ => .int i
  | _, _, .str x, _ => .str x
  | _, _, .tup h r, q => .tup (tup_hid hl h) (Reps.pure hl r (pure_tup q))
  | _, _, .lst h r, q => (pure_lst q).elim
  | _, _, .pt h hx hy ho, _ => .pt (slt_hid hl h) hx hy ho
  | _, _, .obj h r, q => (pure_obj q).elim
theorem Reps.pure (hl : H l = some (.lst xs)) : ∀ {vs : List V} {ds : List D}, Reps S (hid M H) vs ds → pureDs ds = true → Reps S (hid (l :: M) H) vs ds
  | _, _, .nil, _ => .nil
  | _, _, .cons h t, q => .cons (Rep.pure hl h (pure_cons q).1) (Reps.pure hl t (pure_cons q).2)
end
end
section
variable {X : Cx} {W : Wd} {S : Sg} {U : WX} {k j : Nat} {g : En} {P : Po} {o e : Expr} {es : List Expr} {d : D} {ds dd : List D} {fs fs' : List (Str × D)} {x y f m : Str} {fns : List Str} {i n c c0 : Nat} {pos p p2 apos cpos : Pos} {a dx : Addr} {R : List D → Out → Prop} {R3 : List (Str × D) → List D → Out → Prop} {ou : Out} {bb : Bool}
theorem XF.is (h : XF X S g e d) {d' : D} (z : d = d') : XF X S g e d' := z ▸ h
theorem f_q (h : XQ X S U g e (.new d)) : XF X S g e d := h
theorem f_n (h : XN X S g e ds) : XF X S g e (.lst ds) :=
  peI h fun σ H Q ⟨B, M, st, kk⟩ => ⟨B, M, st, fun p vs H1 hp e1 hl r => kk p H1 hp e1 ⟨vs, hl, r⟩⟩
theorem n_f (h : XF X S g e (.lst ds)) : XN X S g e ds :=
  peI h fun σ H Q ⟨B, M, st, kk⟩ => ⟨B, M, st, fun p H1 hp e1 ⟨vs, hl, r⟩ => kk p vs H1 hp e1 hl r⟩
theorem e_f (h : XF X S g e d) : Fw.XE X S g e d :=
  peI h fun σ H Q ⟨B, M, st, kk⟩ => ⟨B, M, st, fun p H1 hp e1 nw => kk _ H1 e1 (nw.rep (st.nm hp))⟩
/-! statements -/
theorem s_retF (he : XF X S g e d) (h : P.rn d) : XS X S U g (.Return (some e) pos) P :=
  psI (ps_ret he) fun E σ H ⟨B, M, st, c, _⟩ => ⟨B, M, st, fun p H1 hp e1 nw => c.rn p H1 d h (st.same.trans e1) (st.same.free hp) (nw.less st.sub)⟩
theorem s_retOwnF (N : Nm X i x) (hi : g[i]? = some (.own ds)) (h : P.rn (.lst ds)) {pos' : Pos} : XS X S U g (.Return (some (.Name x pos)) pos') P :=
  psI (ps_ret (pe_var N.n N.vis N.dbg N.cdt)) fun E σ H ⟨B, M, st, c, x⟩ => by
    obtain ⟨l, vs, ht, hm, h0, hl, r⟩ := st.own hi
    refine ⟨.ref l, ht, c.rn l H _ h st.same ((st.new l hm).elim (fun z => absurd z h0) id) ⟨vs, hl, r.mono (hid_sub fun b hb => ?_)⟩⟩
    rcases List.mem_cons.mp hb with z | z
    · rw [z]; exact hm
    · exact st.sub b z
theorem s_retObF (N : Nm X i x) (hi : g[i]? = some (.ob a dx c fs)) (h : P.rn (.obj c fs)) {pos' : Pos} : XS X S U g (.Return (some (.Name x pos)) pos') P :=
  psI (ps_ret (pe_var N.n N.vis N.dbg N.cdt)) fun E σ H ⟨B, M, st, c, x⟩ => by
    obtain ⟨o, ho, e0, hm, h0, ws, hl, r⟩ := st.sl i _ hi
    refine ⟨.ref a, by rw [ho, e0], c.rn a H _ h st.same h0 ⟨dx, ws, hl, r.mono (hid_sub fun b hb => ?_)⟩⟩
    rcases List.mem_cons.mp hb with z | z
    · rw [z]; exact hm
    · exact st.sub b z
theorem s_asgF (C : Kb X W S) (N : Nl X i x) (he : XF X S g e (.lst ds)) (h : P.nx (g.set i (.own ds))) (hs : swapsWith e (some (.Name x p)) pos.line X.env = pure false := by rfl) : XS X S U g (.Assign [.Name x p] e pos) P :=
  s_asgN C N (n_f he) h hs
theorem s_asgFO (C : Kb X W S) (N : Nl X i x) (he : XF X S g e (.obj c fs)) (h : ∀ a dx, P.nx (g.set i (.ob a dx c fs))) (hs : swapsWith e (some (.Name x p)) pos.line X.env = pure false := by rfl) : XS X S U g (.Assign [.Name x p] e pos) P :=
  psI (ps_set C.nd N.n N.loc he hs N.fn) fun E σ H ⟨B, M, st, c, _⟩ => ⟨B, M, st, fun q H1 hp e1 ⟨dx, ws, hl, r⟩ => c.nx _ _ _ H1 (h q dx) (st.setOb i hp e1 hl r)⟩
/-! calls -/
theorem f_call (C : Cc X W S k) (F : Fn W S j x n dd R) (G : Ng X x) (ha : XA X S g (e :: es) ds) (hR : R (ds ++ dd) (.new d)) (hn : ds.length = n := by rfl) (hj : j ≤ k := by decide)
    (he : starEach (e :: es) X.env = (false, eval e X.env) :: starEach es X.env := by rfl) (hpl : (backTo pos (starEach es X.env)).any (·.1) = false := by rfl) : XF X S g (.Call (.Name x p) (e :: es) [] pos) d := by
  obtain ⟨f, fd, ps, F, hm, hk, hl, dvs, us, hb, hv, hd⟩ := F.ex
  obtain ⟨⟨w1, w2, c3, c4⟩, c1, c2⟩ := C
  subst w1
  refine peI (pe_call (E := E0) F (c2.mono hj) G.gl hm hk hb hv passN ha G.dbg he hpl) ?_
  intro σ H Q ⟨B, M, st, kk⟩
  exact ⟨B, M, st, fun vs H1 e1 r => ⟨by rw [List.length_append, r.length, (hd H1).length, hn, hl], M, _, .new d, (st.mono e1).trk, r.append (hd _), hR, fun q H2 hp e2 nw => kk q H2 (e1.free hp) (e1.trans e2) nw⟩⟩
theorem e_callF (C : Cc X W S k) (F : Fn W S j x n dd R) (G : Ng X x) (ha : XA X S g (e :: es) ds) (hR : R (ds ++ dd) (.new d)) (hn : ds.length = n := by rfl) (hj : j ≤ k := by decide)
    (he : starEach (e :: es) X.env = (false, eval e X.env) :: starEach es X.env := by rfl) (hpl : (backTo pos (starEach es X.env)).any (·.1) = false := by rfl) : Fw.XE X S g (.Call (.Name x p) (e :: es) [] pos) d :=
  e_f (f_call C F G ha hR hn hj he hpl)
theorem f_oprop (C : Cc X W S k) (OC : ObC W S c x fns) (F : PropO W S c f j R) (he : Fw.XE X S g e (.obj c fs)) (hR : R [.obj c fs] (.new d)) (hj : j + 1 ≤ k := by decide) (hb : attributeBase e f X.env (eval e X.env) = eval e X.env := by rfl) : XF X S g (.Attribute e f pos) d := by
  obtain ⟨p, q, hp, F⟩ := F.ex
  obtain ⟨fd, ps, F1, hl, dvs, us, hbi, hv, hd⟩ := F.ex
  have hcl := OC.cls
  obtain ⟨⟨w1, w2, c3, c4⟩, c1, c2⟩ := C
  subst w1
  refine peI (pe_prop (E := E0) he hcl hp F1 (c2.mono hj) hbi hv passN hb) fun σ H Q ⟨B, M, st, kk⟩ => ⟨B, M, st, fun v H1 e1 r => ?_⟩
  have r0 := r
  cases r with
  | obj h rr =>
    refine ⟨_, _, _, rfl, (hid_some h).2, ?_⟩
    exact ⟨by show dvs.length + 1 = _; rw [(hd H1).length, hl]; rfl, M, [.obj c fs], .new d, (st.mono e1).trk, .cons r0 (hd _), hR, fun q H2 hp e2 nw => kk q H2 (e1.free hp) (e1.trans e2) nw⟩
/-- o.m(), with all that it may do -/
theorem q_meth0 {pl : Sem Bool} (C : Cc X W S k) (tk : L2N.Takes X U) (OC : ObC W S c0 x fns) (F : MethC W S c0 m j 1 dd R) (he : Fw.XE X S g o (.obj c0 fs)) (hl : fs.lookup m = none) (hR : R (.obj c0 fs :: dd) ou) (hj : j ≤ k := by decide)
    (ht : eval (.Call (.Attribute o m apos) [] [] pos) X.env = (do
      let ov ← eval o X.env
      standAt apos.atName
      let (f, first) ← holding [ov] (getMethod ov m pl)
      callWith pos f first (backTo pos (starEach [] X.env)) (backToKw pos (keywordEach [] X.env))) := by rfl) : XQ X S U g (.Call (.Attribute o m apos) [] [] pos) ou := by
  obtain ⟨q, hq, F⟩ := F.ex
  have hcl := OC.cls
  rw [← C.kw] at hcl hq
  refine ⟨fun pins s σ H Q I w => ?_⟩
  obtain ⟨B, M, st, kk⟩ := w
  refine PySem.W.methodCall_KW (pl := pl) (thn (he.run pins s σ H (fun v H1 => Same H H1 ∧ Rep S (hid M H1) v (.obj c0 fs)) I ⟨B, M, st, fun v H1 e1 r => ⟨e1, r⟩⟩) fun u s1 ⟨v, H1, I1, rx, e1, r⟩ => ?_) ht
  have r0 := r
  cases r with
  | obj h rr =>
    rename_i a dx ws
    obtain rfl : u = Value.ref a := rx
    refine getmeth_ok I1 (hid_some h).2 hcl hq (rr.lookN hl) ?_
    refine PySem.W.callWith_K0 (first := [.ref a]) I1.kIn hq.kp ?_
    exact run_MQ (o := ou) (U := U) (vs := [.ref a]) (us := [.ref a]) C tk F hj I1 (.cons rfl .nil) (st.mono e1).trk (.cons r0 .nil) rfl (by exact hR) (outk_mono e1 kk)
theorem f_meth0 {pl : Sem Bool} (C : Cc X W S k) (OC : ObC W S c0 x fns) (F : MethC W S c0 m j 1 dd R) (he : Fw.XE X S g o (.obj c0 fs)) (hl : fs.lookup m = none) (hR : R (.obj c0 fs :: dd) (.new d)) (hj : j ≤ k := by decide)
    (ht : eval (.Call (.Attribute o m apos) [] [] pos) X.env = (do
      let ov ← eval o X.env
      standAt apos.atName
      let (f, first) ← holding [ov] (getMethod ov m pl)
      callWith pos f first (backTo pos (starEach [] X.env)) (backToKw pos (keywordEach [] X.env))) := by rfl) : XF X S g (.Call (.Attribute o m apos) [] [] pos) d :=
  q_meth0 (pl := pl) C takes0 OC F he hl hR hj ht
/-- C(..): a new instance -/
theorem f_ob (C : Cc X W S k) (F : ObI W S c x j n dd R) (G : Ng X x) (ha : XA X S g (e :: es) ds) (hR : R (ds ++ dd) (.ok (.obj c fs))) (hn : ds.length = n := by rfl) (hj : j + 1 ≤ k := by decide)
    (he : starEach (e :: es) X.env = (false, eval e X.env) :: starEach es X.env := by rfl) (hpl : (backTo pos (starEach es X.env)).any (·.1) = false := by rfl) : XF X S g (.Call (.Name x p) (e :: es) [] pos) (.obj c fs) := by
  obtain ⟨fI, fd, ps, mk, F1, hl, dvs, us, hb, hv, hdd⟩ := F.ex
  have gC := F.gC
  obtain ⟨⟨w1, w2, c3, c4⟩, c1, c2⟩ := C
  subst w1
  refine ⟨fun pins s σ H Q I w => ?_⟩
  obtain ⟨B, M, st, kk⟩ := w
  refine PyProof.Rows.Call_ (thn ((pe_glob (v := .ref (S.cO c)) G.gl gC rfl G.dbg).run pins s σ H (fun v H1 => v = .ref (S.cO c) ∧ H1 = H) I ⟨rfl, rfl⟩) fun u s0 ⟨v, H0, I0, rx, e3, e4⟩ => ?_) (by rfl)
  subst e3
  subst e4
  obtain rfl : u = Value.ref (S.cO c) := rx
  refine PySem.W.callWith_K (h₀ := X.base) I.ok.mod.kin mk.kp (wpAny_mono (ha.run pos pins s0 σ H0 (fun vs H1 => Same H0 H1 ∧ Reps S (hid M H1) vs ds) I0 ⟨B, M, st, fun vs H1 e1 r => ⟨e1, r⟩⟩) (fun ws s1 w => ?_) fun _ _ z => z) he hpl
  obtain ⟨vs, H1, I1, r1, e1, rr⟩ := w
  have st1 := st.mono e1
  refine ⟨I1.kIn, made_run (U := fun _ _ _ _ => False) mk F1 (c2.mono hj) hb hv takes0 I1 r1 fun a dx ha hdx ne => ?_⟩
  have hs : Same H1 (hid [a] (upd (upd H1 dx (.own a)) a (.ins (S.cO c) dx []))) := fun b u hb => by
    have n1 := ne_of_none hb ha
    have n2 := ne_of_none hb hdx
    refine hid_of (fun z => n1 (List.mem_singleton.mp z)) (by rw [upd_ne n1, upd_ne n2]; exact hb)
  refine ⟨a, dx, vs ++ dvs, M, ds ++ dd, .ok (.obj c fs), rfl, by rw [List.length_append, rr.length, (hdd H1).length, hl]; omega, ne, st1.nm ha, upd_same, fun b hb => ?_, ((rr.append (hdd _)).mono (fun b u hb => ?_)), hR, ⟨rfl, fun ws H2 e2 hl2 rf => ⟨rfl, kk a H2 (e1.free ha) (e1.trans (hs.trans e2)) ⟨dx, ws, hl2, rf⟩⟩⟩⟩
  · have q := st1.trk b hb
    have n1 : b ≠ a := fun z => q (z ▸ ha)
    have n2 : b ≠ dx := fun z => q (z ▸ hdx)
    rw [upd_ne n1, upd_ne n2]
    exact q
  · obtain ⟨h1, h2⟩ := hid_some hb
    have n1 := ne_of_none h2 ha
    have n2 := ne_of_none h2 hdx
    refine hid_of (fun z => ?_) (by rw [upd_ne n1, upd_ne n2]; exact h2)
    rcases List.mem_cons.mp z with z | z
    · exact n1 z
    · exact h1 z
/-! views -/
theorem f_view (hC : S.cO c ≠ S.cP) (hi : g[i]? = some (.ob a dx c fs)) (he : XF X S (g.set i (.v (.obj c fs))) e d) (hd : PastIn S c d) : XF X S g e d :=
  peI he fun σ H Q ⟨B, M, st, kk⟩ => by
    obtain ⟨M', ws, hM, hl, st'⟩ := st.viewOb hi
    refine ⟨B0, M', st', fun p H1 hp e1 nw => kk p H1 hp e1 ?_⟩
    have hs : ∀ b ∈ p :: M, b ∈ a :: p :: M' := fun b hb => by
      rcases List.mem_cons.mp hb with z | z
      · exact List.mem_cons_of_mem _ (z ▸ List.mem_cons_self)
      · rcases List.mem_cons.mp (hM b z) with z | z
        · exact z ▸ List.mem_cons_self
        · exact List.mem_cons_of_mem _ (List.mem_cons_of_mem _ z)
    have hl1 := e1 _ _ hl
    cases d with
    | lst ds =>
      obtain ⟨vs, h1, r⟩ := nw
      exact ⟨vs, h1, (Reps.past hl1 hC r hd).mono (hid_sub hs)⟩
    | obj c' fs' =>
      obtain ⟨dx', ws', h1, r⟩ := nw
      exact ⟨dx', ws', h1, (RepF.past hl1 hC r hd).mono (hid_sub hs)⟩
    | _ => exact nw.elim
/-- one's own list, looked at as a value -/
theorem Stt.viewOwn {B : Bs} {M : List Addr} {t : L2.St} {H : Hp} (h : Stt S B M g t H) (hi : g[i]? = some (.own ds)) : ∃ M' l vs, (∀ b, b ∈ M → b ∈ l :: M') ∧ H l = some (.lst vs) ∧ Stt S B0 M' (g.set i (.v (.lst ds))) t H := by
  obtain ⟨l, vs, ht, hm, h0, hl, r⟩ := h.own hi
  have hs : ∀ b ∈ M.filter (fun a => decide (a ≠ l)), b ∈ M := fun b hb => (List.mem_filter.mp hb).1
  have hn : l ∉ M.filter (fun a => decide (a ≠ l)) := fun z => by
    have := (List.mem_filter.mp z).2
    simp at this
  have hin : ∀ a, a ∈ M → a ≠ l → a ∈ M.filter (fun a => decide (a ≠ l)) := fun a ha q => List.mem_filter.mpr ⟨ha, decide_eq_true q⟩
  refine ⟨M.filter (fun a => decide (a ≠ l)), l, vs, fun b hb => ?_, hl, ⟨fun a u z => (nomatch z), fun a ha => (nomatch ha), fun a ha => .inr rfl, fun a ha => h.trk a (hs a ha), fun j s hj => ?_, trivial, fun j k s u w hjk h1 h2 m1 m2 e1 e2 => ?_⟩⟩
  · by_cases z : b = l
    · rw [z]; exact List.mem_cons_self
    · exact List.mem_cons_of_mem _ (hin b hb z)
  · by_cases q : i = j
    · subst q
      obtain ⟨q, _⟩ := set_get hj
      subst q
      exact ⟨_, ht, .ref l, rfl, .lst (SqL.of (hid_of hn hl)) (r.mono (hid_sub hs))⟩
    · rw [List.getElem?_set_ne q] at hj
      obtain ⟨o, ho, rr⟩ := h.sl j s hj
      refine ⟨o, ho, ?_⟩
      have apart : ∀ a, s.mine = true → o = some (.ref a) → a ≠ l := fun a m e z => h.apart i j (.own ds) s (.ref l) q hi hj rfl m ht (by rw [ho, e, z])
      cases s with
      | no => exact True.intro
      | v d =>
        obtain ⟨v, e1, r1⟩ := rr
        exact ⟨v, e1, r1.mono (hid_sub hs)⟩
      | own ds' =>
        obtain ⟨l', vs', e1, m1, m2, z0, q1, q2⟩ := rr
        exact ⟨l', vs', e1, hin _ m1 (apart l' rfl e1), fun z => (nomatch z), rfl, q1, q2.mono (hid_sub hs)⟩
      | ob a dx c fs =>
        obtain ⟨e1, m1, z0, ws, q1, q2⟩ := rr
        exact ⟨e1, hin _ m1 (apart a rfl e1), rfl, ws, q1, q2.mono (hid_sub hs)⟩
      | pi a dx vs =>
        obtain ⟨e1, m1, m2, z0, z1, ne, q1, q2⟩ := rr
        have nd : dx ≠ l := fun z => by
          rcases q2 with hd | hd
          · rw [z, hl] at hd; cases hd
          · rw [z, hl] at hd; cases hd
        exact ⟨e1, hin _ m1 (apart a rfl e1), hin _ m2 nd, rfl, rfl, ne, q1, q2⟩
      | exc a dd c fs =>
        obtain ⟨e1, x⟩ := rr
        exact ⟨e1, fun hq => let ⟨ws, hd, r1⟩ := x hq; ⟨ws, hd, r1.mono (hid_sub hs)⟩⟩
  · have n1 : i ≠ j := fun z => by
      subst z
      obtain ⟨q, _⟩ := set_get h1
      subst q
      cases m1
    have n2 : i ≠ k := fun z => by
      subst z
      obtain ⟨q, _⟩ := set_get h2
      subst q
      cases m2
    rw [List.getElem?_set_ne n1] at h1
    rw [List.getElem?_set_ne n2] at h2
    exact h.apart j k s u w hjk h1 h2 m1 m2 e1 e2
theorem e_viewL (hi : g[i]? = some (.own ds)) (he : Fw.XE X S (g.set i (.v (.lst ds))) e d) (hd : pureD d = true) : Fw.XE X S g e d :=
  peI he fun σ H Q ⟨B, M, st, kk⟩ => by
    obtain ⟨M', l, vs, hM, hl, st'⟩ := st.viewOwn hi
    exact ⟨B0, M', st', fun v H1 e1 r => kk v H1 e1 ((Rep.pure (e1 _ _ hl) r hd).mono (hid_sub hM))⟩
theorem t_viewL (hi : g[i]? = some (.own ds)) (he : Fw.XT X S (g.set i (.v (.lst ds))) e bb) : Fw.XT X S g e bb :=
  ptI he fun σ H Q ⟨B, M, st, kk⟩ => by
    obtain ⟨M', l, vs, hM, hl, st'⟩ := st.viewOwn hi
    exact ⟨B0, M', st', fun H1 e1 => kk H1 e1⟩
end
end Fw

set_option Elab.async false
set_option linter.all false
set_option maxRecDepth 100000
set_option maxHeartbeats 4000000
/-! ### sets of tuples of any size (up to some thousands) -/
namespace Bg
open PySem PySem.Spec PyProof.Rows L2
/-! the round of x -> 5 x + 1 in a block of 2 ^ k places -/
def rnd : Nat → Nat
  | 0 => 0
  | n + 1 => 5 * rnd n + 1
theorem rnd_add (i : Nat) : ∀ d, rnd (i + d) = rnd i + rnd d * (4 * rnd i + 1)
  | 0 => by simp [rnd]
  | d + 1 => by
    have ih := rnd_add i d
    have e : (5 * rnd d + 1) * (4 * rnd i + 1) = 5 * (rnd d * (4 * rnd i + 1)) + (4 * rnd i + 1) := by rw [Nat.add_mul, Nat.mul_assoc, Nat.one_mul]
    show 5 * rnd (i + d) + 1 = rnd i + (5 * rnd d + 1) * (4 * rnd i + 1)
    rw [e, ih]
    omega
theorem rnd_par : ∀ n, rnd n % 2 = n % 2
  | 0 => rfl
  | n + 1 => by
    have := rnd_par n
    show (5 * rnd n + 1) % 2 = _
    omega
theorem odd_cop (k x : Nat) (h : x % 2 = 1) : Nat.Coprime (2 ^ k) x := by
  refine Nat.Coprime.pow_left k ?_
  unfold Nat.Coprime
  rw [Nat.gcd_rec, h]
  rfl
theorem rnd_dvd : ∀ (k n : Nat), 2 ^ k ∣ rnd n ↔ 2 ^ k ∣ n
  | 0, n => by simp
  | k + 1, n => by
    have two : ∀ x, 2 ^ (k + 1) ∣ x → x % 2 = 0 := fun x h => by
      obtain ⟨y, rfl⟩ := h
      rw [Nat.pow_succ, Nat.mul_assoc, Nat.mul_left_comm]
      exact Nat.mul_mod_right 2 _
    have half : ∀ m, rnd (m + m) = 2 * (rnd m * (2 * rnd m + 1)) := fun m => by
      rw [rnd_add]
      have e1 : rnd m * (4 * rnd m + 1) = 4 * (rnd m * rnd m) + rnd m := by rw [Nat.mul_add, Nat.mul_one, Nat.mul_left_comm]
      have e2 : rnd m * (2 * rnd m + 1) = 2 * (rnd m * rnd m) + rnd m := by rw [Nat.mul_add, Nat.mul_one, Nat.mul_left_comm]
      rw [e1, e2]
      omega
    have key : ∀ m, 2 ^ (k + 1) ∣ rnd (m + m) ↔ 2 ^ (k + 1) ∣ m + m := fun m => by
      have e : m + m = 2 * m := by omega
      rw [half, Nat.pow_succ, Nat.mul_comm (2 ^ k) 2, Nat.mul_dvd_mul_iff_left (by decide), e, Nat.mul_dvd_mul_iff_left (by decide), ← rnd_dvd k m]
      exact ⟨fun h => (odd_cop k _ (by omega)).dvd_of_dvd_mul_right h, fun h => Nat.dvd_trans h (Nat.dvd_mul_right _ _)⟩
    constructor
    · intro h
      have := two _ h
      rw [rnd_par] at this
      obtain ⟨m, rfl⟩ : ∃ m, n = m + m := ⟨n / 2, by omega⟩
      exact (key m).mp h
    · intro h
      have := two _ h
      obtain ⟨m, rfl⟩ : ∃ m, n = m + m := ⟨n / 2, by omega⟩
      exact (key m).mpr h
theorem rnd_le {k i j : Nat} (hij : i ≤ j) (hj : j < 2 ^ k) (h : rnd i % 2 ^ k = rnd j % 2 ^ k) : i = j := by
  obtain ⟨d, rfl⟩ : ∃ d, j = i + d := ⟨j - i, by omega⟩
  have z := Nat.sub_mod_eq_zero_of_mod_eq h.symm
  rw [rnd_add, Nat.add_sub_cancel_left] at z
  have z2 := (odd_cop k (4 * rnd i + 1) (by omega)).dvd_of_dvd_mul_right (Nat.dvd_of_mod_eq_zero z)
  have z3 := (rnd_dvd k d).mp z2
  have : d = 0 := Nat.eq_zero_of_dvd_of_lt z3 (by omega)
  omega
theorem rnd_one {k i j : Nat} (hi : i < 2 ^ k) (hj : j < 2 ^ k) (h : rnd i % 2 ^ k = rnd j % 2 ^ k) : i = j := by
  rcases Nat.le_total i j with c | c
  · exact rnd_le c hj h
  · exact (rnd_le c hi h.symm).symm
/-- all places are met -/
theorem rnd_all {k j : Nat} (hj : j < 2 ^ k) : ∃ n, n < 2 ^ k ∧ rnd n % 2 ^ k = j := by
  apply Classical.byContradiction
  intro no
  have hp : 0 < 2 ^ k := Nat.pow_pos (by decide)
  have nd : ((List.range (2 ^ k)).map fun n => rnd n % 2 ^ k).Nodup := by
    refine List.pairwise_map.mpr (List.Pairwise.imp_of_mem (fun {a b} ha hb hne e => hne ?_) List.nodup_range)
    exact rnd_one (List.mem_range.mp ha) (List.mem_range.mp hb) e
  have sub : ∀ x ∈ (List.range (2 ^ k)).map fun n => rnd n % 2 ^ k, x ∈ (List.range (2 ^ k)).erase j := fun x hx => by
    obtain ⟨n, hn, e⟩ := List.mem_map.mp hx
    refine (List.mem_erase_of_ne fun z => no ⟨n, List.mem_range.mp hn, e.trans z⟩).2 ?_
    rw [← e]
    exact List.mem_range.mpr (Nat.mod_lt _ hp)
  have l := nat_nodup_len _ _ nd sub
  rw [List.length_map, List.length_range, List.length_erase_of_mem (List.mem_range.mpr hj), List.length_range] at l
  omega
def Rd (m : Nat) : Prop := ∃ k, m + 1 = 2 ^ k
theorem lcg_rnd (m s : Nat) : ∀ n, lcgI m (rnd s % (m + 1)) n = rnd (s + n) % (m + 1)
  | 0 => rfl
  | n + 1 => by
    show (lcgI m (rnd s % (m + 1)) n * 5 + 1) % (m + 1) = (5 * rnd (s + n) + 1) % (m + 1)
    rw [lcg_rnd m s n, Nat.add_mod, Nat.mul_mod, Nat.mod_mod, ← Nat.mul_mod, ← Nat.add_mod, Nat.mul_comm]
theorem met {m i j : Nat} (h : Rd m) (hi : i ≤ m) (hj : j ≤ m) : ∃ n, n ≤ m ∧ lcgI m i n = j := by
  obtain ⟨k, e⟩ := h
  obtain ⟨s, hs, es⟩ := rnd_all (k := k) (j := i) (by omega)
  obtain ⟨t, ht, et⟩ := rnd_all (k := k) (j := j) (by omega)
  have e0 : i = rnd s % (m + 1) := by rw [e, es]
  have e1 : j = rnd t % (m + 1) := by rw [e, et]
  have rest : ∀ n, n ≤ m → rnd (s + n) % (m + 1) = rnd t % (m + 1) → ∃ n, n ≤ m ∧ lcgI m i n = j := fun n hn en => ⟨n, hn, by rw [e0, lcg_rnd, en, ← e1]⟩
  by_cases c : s ≤ t
  · exact rest (t - s) (by omega) (by rw [show s + (t - s) = t by omega])
  · refine rest (t + 2 ^ k - s) (by omega) ?_
    rw [show s + (t + 2 ^ k - s) = t + 2 ^ k by omega, rnd_add, e]
    obtain ⟨y, ey⟩ := (rnd_dvd k (2 ^ k)).mpr (Nat.dvd_refl _)
    rw [ey, Nat.mul_assoc, Nat.add_mul_mod_self_left]
/-- the sizes of tables -/
structure Mk (m : Nat) : Prop where
  rd : Rd m
  lo : 7 ≤ m
  hi : m ≤ 8191
theorem Mk.odd {m : Nat} (h : Mk m) : m % 2 = 1 := by
  obtain ⟨⟨k, e⟩, lo, _⟩ := h
  cases k with
  | zero => simp at e; omega
  | succ k => rw [Nat.pow_succ] at e; omega
theorem run_met {m j : Nat} (hm : Mk m) (h : Int) (hj : j ≤ m) : ∃ n, n ≤ m + 12 ∧ runI m (SetTable.bits h) n = j := by
  obtain ⟨n, hn, e⟩ := met hm.rd (runI_le m (SetTable.bits h) 12) hj
  exact ⟨12 + n, by omega, (runI_tail (bits_lt h) n).trans e⟩
theorem way_met {m j : Nat} (hm : Mk m) (h : Int) (hj : j ≤ m) : ∃ k, k < 10 * SetTable.turns m ∧ way m h k = j := by
  obtain ⟨n, hn, e⟩ := run_met hm h hj
  obtain ⟨k, hk, e2⟩ := run_nth m (SetTable.bits h) n
  exact ⟨k, by unfold SetTable.turns; omega, (congrArg SetTable.Probe.j e2).trans e⟩
theorem way_in (m : Nat) (h : Int) (k : Nat) : way m h k ≤ m := by
  have b : SetTable.bits h % (m + 1) ≤ m := Nat.le_of_lt_succ (Nat.mod_lt (SetTable.bits h) (Nat.succ_pos m))
  have r := runEnd_bd b
  have q := nth_in (m := m) k (runAt m (SetTable.bits h % (m + 1)) (SetTable.bits h)) (by
    show SetTable.bits h % (m + 1) + (SetTable.runEnd m (SetTable.bits h % (m + 1)) - SetTable.bits h % (m + 1)) ≤ m
    omega)
  exact Nat.le_trans (Nat.le_add_right _ _) q
/-! the table's word -/
structure Tab (t : SetTable) (hs : List Int) : Prop where
  ris : Ris t.place.toList
  dm : t.dummies = #[]
  sz : t.place.size = hs.length
  mo : Mk t.mask
  bd : ∀ x ∈ t.place.toList, x ≤ t.mask
  reach : ∀ (i : Nat) (h : Int) (j : Nat), hs[i]? = some h → t.place.toList[i]? = some j → ∃ k, way t.mask h k = j ∧ ∀ k', k' < k → way t.mask h k' ∈ t.place.toList
section
variable {t : SetTable} {hs : List Int} {h : Int} {K : Nat}
theorem Tab.first (T : Tab t hs) (hl : hs.length ≤ t.mask) (h : Int) : ∃ K, K < 10 * SetTable.turns t.mask ∧ way t.mask h K ∉ t.place.toList ∧ ∀ k, k < K → way t.mask h k ∈ t.place.toList := by
  obtain ⟨j, hj, hn⟩ := st_missing t.place.toList (t.mask + 1) (by rw [Array.length_toList, T.sz]; omega)
  obtain ⟨k, hk, e⟩ := way_met T.mo h (Nat.le_of_lt_succ hj)
  obtain ⟨K, h1, h2, h3⟩ := st_least (p := fun k => way t.mask h k ∉ t.place.toList) k (by rw [← e] at hn; exact hn)
  exact ⟨K, Nat.lt_of_le_of_lt h1 hk, h2, fun k' hk' => Classical.byContradiction (h3 k' hk')⟩
theorem Tab.before (T : Tab t hs) {i j : Nat} (hK : way t.mask h K ∉ t.place.toList) (hi : hs[i]? = some h) (hj : t.place.toList[i]? = some j) : ∃ k, k < K ∧ way t.mask h k = j := by
  obtain ⟨k, e, hb⟩ := T.reach i h j hi hj
  refine ⟨k, Nat.lt_of_not_le fun c => hK ?_, e⟩
  rcases Nat.lt_or_eq_of_le c with c | c
  · exact hb K c
  · rw [c, e]
    exact List.mem_of_getElem? hj
theorem Tab.put (T : Tab t hs) (hK : way t.mask h K ∉ t.place.toList) (hb : ∀ k, k < K → way t.mask h k ∈ t.place.toList) {j p : Nat} (ej : j = way t.mask h K) (ep : p = SetTable.below t.place j) :
    p ≤ hs.length ∧ Tab (t.put j).1 (hs.take p ++ h :: hs.drop p) ∧ (t.put j).1.fill = hs.length + 1 := by
  have hj : j ∉ t.place.toList := by rw [ej]; exact hK
  have c1 := (below_cut T.ris j).1
  rw [← ep] at c1
  have hp : p ≤ hs.length := by rw [← T.sz]; exact c1
  have hl : p ≤ t.place.toList.length := by rw [Array.length_toList]; exact c1
  have pl : (t.put j).1.place.toList = t.place.toList.take p ++ j :: t.place.toList.drop p := by rw [put_place, ← ep]
  have up : ∀ {x : Nat}, x ∈ t.place.toList → x ∈ (t.put j).1.place.toList := fun hx => by rw [pl]; exact mem_ins.2 (.inr hx)
  have sz : (t.put j).1.place.size = hs.length + 1 := by rw [← Array.length_toList, pl, len_ins _ hl, Array.length_toList, T.sz]
  have np : t.place[SetTable.below t.place j]? ≠ some j := fun e => hj (List.mem_of_getElem? (by rw [Array.getElem?_toList]; exact e))
  refine ⟨hp, ⟨ris_insert T.ris np, put_dm T.dm j, by rw [sz, len_ins _ hp], T.mo, fun x hx => ?_, fun i h' j' h1 h2 => ?_⟩, ?_⟩
  · show x ≤ t.mask
    rw [pl] at hx
    rcases mem_ins.1 hx with z | z
    · rw [z, ej]
      exact way_in _ _ _
    · exact T.bd x z
  · show ∃ k, way t.mask h' k = j' ∧ ∀ k', k' < k → way t.mask h' k' ∈ (t.put j).1.place.toList
    have old : ∀ i', hs[i']? = some h' → t.place.toList[i']? = some j' → ∃ k, way t.mask h' k = j' ∧ ∀ k', k' < k → way t.mask h' k' ∈ (t.put j).1.place.toList := fun i' a b => by
      obtain ⟨k, e, z⟩ := T.reach i' h' j' a b
      exact ⟨k, e, fun k' hk' => up (z k' hk')⟩
    rw [tins_get hs hp] at h1
    rw [pl, tins_get _ hl] at h2
    by_cases c : i < p
    · rw [if_pos c] at h1 h2
      exact old i h1 h2
    · by_cases d : i = p
      · rw [if_neg c, if_pos d] at h1 h2
        cases h1
        cases h2
        exact ⟨K, ej.symm, fun k' hk' => up (hb k' hk')⟩
      · rw [if_neg c, if_neg d] at h1 h2
        exact old (i - 1) h1 h2
  · show (t.put j).1.place.size + (t.put j).1.dummies.size = _
    rw [sz, put_dm T.dm j]
    rfl
end
/-! laying all anew -/
theorem free_at {m j : Nat} (hm : Mk m) (ow : Array (Option Nat)) (h : Int) (hj : j ≤ m) (hf : oAt ow j = none) :
    ∃ K, SetTable.layClean.free m ow (SetTable.turns m) (SetTable.bits h % (m + 1)) (SetTable.bits h) = some (way m h K) ∧ oAt ow (way m h K) = none ∧ ∀ k, k < K → oAt ow (way m h k) ≠ none := by
  obtain ⟨n, hn, e⟩ := run_met hm h hj
  have hw : way m h (off m (SetTable.bits h % (m + 1)) (SetTable.bits h) n) = j := by
    refine (congrArg SetTable.Probe.j (nth_off m n _ _)).trans ?_
    rw [itL_run]
    exact e
  obtain ⟨K, k1, k2, k3⟩ := st_least (p := fun k => oAt ow (way m h k) = none) _ (by rw [← hw] at hf; exact hf)
  refine ⟨K, free_spec m ow _ n _ _ K (by unfold SetTable.turns; omega) k1 (fun k hk => ?_) (by rw [show oAt ow (nth m _ K).j = none from k2]; rfl), k2, k3⟩
  cases z : oAt ow (nth m (runAt m (SetTable.bits h % (m + 1)) (SetTable.bits h)) k).j with
  | none => exact absurd z (k3 k hk)
  | some _ => rfl
theorem own_more {m : Nat} (hm : Mk m) {done : List Int} {ow : Array (Option Nat)} (W : Own m done ow) (hl : done.length ≤ m) (h : Int) :
    ∃ j, SetTable.layClean.free m ow (SetTable.turns m) (SetTable.bits h % (m + 1)) (SetTable.bits h) = some j ∧ Own m (done ++ [h]) (ow.setIfInBounds j (some done.length)) := by
  obtain ⟨ps, hps, hin⟩ := W.ps
  obtain ⟨j0, h0, hn0⟩ := st_missing ps (m + 1) (by omega)
  have hj0 : oAt ow j0 = none := Classical.byContradiction fun z => hn0 (hin j0 (Nat.le_of_lt_succ h0) z)
  obtain ⟨K, e1, e2, e3⟩ := free_at hm ow h (Nat.le_of_lt_succ h0) hj0
  have hle := way_in m h K
  generalize hj : way m h K = j at e1 e2 hle
  have hs := oAt_set_self (some done.length) (owner := ow) (j := j) (by rw [W.sz]; omega)
  have up : ∀ {i : Nat}, oAt ow i ≠ none → oAt (ow.setIfInBounds j (some done.length)) i ≠ none := fun {i} hi => by
    by_cases c : i = j
    · rw [c, hs]
      exact fun z => nomatch z
    · rw [oAt_set_ne _ c]
      exact hi
  refine ⟨j, e1, by rw [Array.size_setIfInBounds]; exact W.sz, fun i k hi e => ?_, fun k hk => ?_, j :: ps, by rw [List.length_cons, List.length_append, hps]; rfl, fun i hi e => ?_⟩
  · by_cases c : i = j
    · rw [c, hs] at e
      cases e
      exact ⟨h, K, by simp, by rw [hj, c], fun k' hk' => up (e3 k' hk')⟩
    · rw [oAt_set_ne _ c] at e
      obtain ⟨h', K', a1, a2, a3⟩ := W.at_ i k hi e
      exact ⟨h', K', by rw [List.getElem?_append_left (List.getElem?_eq_some_iff.mp a1).1]; exact a1, a2, fun k' hk' => up (a3 k' hk')⟩
  · rw [List.length_append, List.length_singleton] at hk
    by_cases c : k < done.length
    · obtain ⟨i, hi, e⟩ := W.all k c
      exact ⟨i, hi, by rw [oAt_set_ne _ (fun z => by rw [z, e2] at e; cases e)]; exact e⟩
    · exact ⟨j, hle, by rw [hs]; congr 1; omega⟩
  · by_cases c : i = j
    · rw [c]
      exact List.mem_cons_self
    · rw [oAt_set_ne _ c] at e
      exact List.mem_cons_of_mem _ (hin i hi e)
theorem own_all {m : Nat} (hm : Mk m) : ∀ (rest done : List Int) (ow : Array (Option Nat)), Own m done ow → done.length + rest.length ≤ m → ∃ ow', rest.foldl (stepF m) (some (ow, done.length)) = some (ow', (done ++ rest).length) ∧ Own m (done ++ rest) ow'
  | [], done, ow, W, _ => ⟨ow, by rw [List.append_nil]; rfl, by rw [List.append_nil]; exact W⟩
  | h :: rest, done, ow, W, hl => by
    rw [List.length_cons] at hl
    obtain ⟨j, e, W'⟩ := own_more hm W (by omega) h
    obtain ⟨ow', f, W2⟩ := own_all hm rest (done ++ [h]) _ W' (by simp; omega)
    rw [show done ++ [h] ++ rest = done ++ h :: rest by simp] at f W2
    refine ⟨ow', ?_, W2⟩
    rw [List.foldl_cons, stepF_some e, ← f]
    simp
theorem laid_all {m : Nat} (hm : Mk m) {hs : Array Int} (hn : hs.size ≤ m) : ∃ ow, SetTable.layClean m hs = some ow ∧ Own m hs.toList ow := by
  obtain ⟨ow, f, W⟩ := own_all hm hs.toList [] _ (Own.init m) (by simp; exact hn)
  refine ⟨ow, ?_, W⟩
  rw [layClean_eq]
  exact congrArg (Option.map (·.1)) f
theorem laid_new (t : SetTable) {hs : Array Int} {wanted M : Nat} (hw : SetTable.sizeAbove wanted - 1 = M) (hM : Mk M) (hn : hs.size ≤ M) :
    ∃ t' ord, t.relaid hs wanted = some (t', ord) ∧ ord.toList.Perm (List.range hs.size) ∧ Tab t' (ord.toList.map fun i => hs.getD i 0) ∧ t'.mask = M ∧ t'.led = t.led ∧ t'.plain = t.plain := by
  obtain ⟨ow, e, W⟩ := laid_all hM hn
  have ris := ris_live (fun j => ow.getD j none) (List.range (M + 1)) (by unfold Ris; exact List.pairwise_lt_range)
  have r1 : Ris ((liveOf M ow).map (·.1)) := ris.1
  have nd : ((liveOf M ow).map (·.1)).Nodup := r1.imp fun h => Nat.ne_of_lt h
  have all : ∀ k < hs.size, k ∈ (liveOf M ow).map (·.2) := fun k hk => by
    obtain ⟨j, b1, b2⟩ := W.all k hk
    exact List.mem_map.mpr ⟨(j, k), (mem_live W.sz).2 ⟨b1, b2⟩, rfl⟩
  have len : ((liveOf M ow).map (·.2)).length = hs.size := by
    obtain ⟨ps, p1, p2⟩ := W.ps
    have a := nat_nodup_len _ ps nd fun x hx => by
      obtain ⟨q, hq, rfl⟩ := List.mem_map.mp hx
      obtain ⟨b1, b2⟩ := (mem_live (j := q.1) (k := q.2) W.sz).1 hq
      exact p2 _ b1 (by rw [b2]; exact fun z => nomatch z)
    have b := nat_nodup_len (List.range hs.size) _ List.nodup_range fun k hk => all k (List.mem_range.mp hk)
    rw [List.length_range] at b
    have hz : hs.toList.length = hs.size := Array.length_toList
    rw [List.length_map, p1, hz] at a
    rw [List.length_map] at b ⊢
    omega
  refine ⟨tabOf t M ow, ((liveOf M ow).map (·.2)).toArray, by rw [relaid_eq, hw, e]; rfl, perm_range hs.size _ len all, ⟨r1, rfl, ?_, hM, fun x hx => Nat.le_of_lt_succ (List.mem_range.mp (ris.2 x hx)), fun i h j h1 h2 => ?_⟩, rfl, rfl, rfl⟩
  · show ((liveOf M ow).map (·.1)).toArray.size = (((liveOf M ow).map (·.2)).map fun i => hs.getD i 0).length
    simp
  · have h1' : (((liveOf M ow).map (·.2)).map fun i => hs.getD i 0)[i]? = some h := h1
    have h2' : ((liveOf M ow).map (·.1))[i]? = some j := h2
    rw [List.map_map, List.getElem?_map] at h1'
    rw [List.getElem?_map] at h2'
    cases hq : (liveOf M ow)[i]? with
    | none => rw [hq] at h2'; cases h2'
    | some q =>
      obtain ⟨y, k⟩ := q
      rw [hq] at h1' h2'
      cases h2'
      obtain ⟨b1, b2⟩ := (mem_live W.sz).1 (List.mem_of_getElem? hq)
      obtain ⟨h0, K, a1, a2, a3⟩ := W.at_ y k b1 b2
      have e0 : hs.getD k 0 = h0 := by
        rw [Array.getD_eq_getD_getElem?, ← Array.getElem?_toList, a1]
        rfl
      obtain rfl : h0 = h := e0.symm.trans (Option.some.inj h1')
      refine ⟨K, a2, fun k' hk' => ?_⟩
      show way M h0 k' ∈ (liveOf M ow).map (·.1)
      cases z : oAt ow (way M h0 k') with
      | none => exact absurd z (a3 k' hk')
      | some k2 => exact List.mem_map.mpr ⟨(_, k2), (mem_live W.sz).2 ⟨way_in M h0 k', z⟩, rfl⟩
end Bg

set_option Elab.async false
set_option linter.all false
set_option maxRecDepth 100000
set_option maxHeartbeats 4000000
namespace Bg
open PySem PySem.Spec PyProof.Rows L2
/-! the next size -/
theorem above_go (n : Nat) : ∀ (f z : Nat), (∃ k, z = 2 ^ k) → n < z * 2 ^ f → ∃ k, SetTable.sizeAbove.go n f z = 2 ^ k ∧ n < 2 ^ k ∧ z ≤ 2 ^ k ∧ (2 ^ k = z ∨ 2 ^ k ≤ 2 * n)
  | 0, z, ⟨k, hk⟩, h => ⟨k, hk, by rw [← hk]; simpa using h, by omega, .inl hk.symm⟩
  | f + 1, z, ⟨k, hk⟩, h => by
    unfold SetTable.sizeAbove.go
    by_cases c : z ≤ n
    · rw [if_pos c]
      obtain ⟨j, e, h1, h2, h3⟩ := above_go n f (z * 2) ⟨k + 1, by rw [hk, Nat.pow_succ]⟩ (by rw [Nat.pow_succ] at h; rw [Nat.mul_assoc, Nat.mul_comm 2]; exact h)
      exact ⟨j, e, h1, by omega, .inr (by omega)⟩
    · rw [if_neg c]
      exact ⟨k, hk, by omega, by omega, .inl hk.symm⟩
theorem above_ok {n : Nat} (h0 : 1 ≤ n) (h : n < 2048) : Mk (SetTable.sizeAbove (SetTable.grown n) - 1) ∧ SetTable.sizeAbove (SetTable.grown n) ≤ 8192 ∧ 4 * n ≤ SetTable.sizeAbove (SetTable.grown n) - 1 := by
  have e : SetTable.grown n = n * 4 := by
    unfold SetTable.grown
    rw [if_neg (by omega)]
  rw [e]
  obtain ⟨k, e1, h1, h2, h3⟩ := above_go (n * 4) 64 8 ⟨3, rfl⟩ (by
    have : (8 : Nat) * 2 ^ 64 > 8192 := by decide
    omega)
  have e2 : SetTable.sizeAbove (n * 4) = 2 ^ k := e1
  rw [e2]
  have hk : k ≤ 13 := Nat.le_of_not_lt fun c => by
    have : (2 : Nat) ^ 14 ≤ 2 ^ k := Nat.pow_le_pow_right (by decide) c
    have : (2 : Nat) ^ 14 = 16384 := by decide
    omega
  have : (2 : Nat) ^ k ≤ 2 ^ 13 := Nat.pow_le_pow_right (by decide) hk
  have : (2 : Nat) ^ 13 = 8192 := by decide
  exact ⟨⟨⟨k, by omega⟩, by omega, by omega⟩, by omega, by omega⟩
/-! the set at a: its rows L -/
structure SetG (P : Program) (w : World) (h : Heap) (a : Addr) (L : List (Addr × List Int)) (es : Array (Int × Value)) (ep : Nat) (t : SetTable) : Prop where
  ob : ∃ o : Obj, h.get? a = some o ∧ o.ExactSet ∧ o.data = .set es ep t
  rw' : es.toList = rowsOf P w L
  tab : Tab t (L.map fun p => thash P w p.2)
  one : (L.map (·.2)).Nodup
  its : ∀ p ∈ L, IsT P w h p.2 p.1
  pln : t.plain = true
  ldd : w.params.followText "set-order" = true ∨ t.led = true
  room : L.length * 5 < t.mask * 3
  few : L.length < 2000
section
variable {P : Program} {w : World} {A : Around} {E : Value → Shared → Prop} {s : Shared} {a x : Addr} {L : List (Addr × List Int)} {es : Array (Int × Value)} {ep : Nat} {t : SetTable} {k : List Int}
theorem rows_size (h : es.toList = rowsOf P w L) : es.size = L.length := by
  rw [← Array.length_toList, h]
  exact List.length_map _
theorem fits_of (T : Tab t (L.map fun p => thash P w p.2)) (h : es.toList = rowsOf P w L) (hl : L.length ≤ t.mask) : t.fits es.size = true := by
  have z := T.sz
  rw [List.length_map] at z
  unfold SetTable.fits SetTable.fill
  rw [T.dm, rows_size h, Bool.and_eq_true, beq_iff_eq, decide_eq_true_eq]
  exact ⟨z, by show t.place.size + 0 ≤ t.mask; omega⟩
theorem SetG.fits (R : SetG P w s.heap a L es ep t) : t.fits es.size = true := fits_of R.tab R.rw' (by have := R.room; omega)
theorem SetG.row (R : SetG P w s.heap a L es ep t) {i : Nat} {p : Addr × List Int} (h : L[i]? = some p) : es[i]? = some (thash P w p.2, Value.ref p.1) := by
  rw [← Array.getElem?_toList, R.rw']
  show (L.map fun p => (thash P w p.2, Value.ref p.1))[i]? = _
  rw [List.getElem?_map, h]
  rfl
theorem SetG.stays (R : SetG P w s.heap a L es ep t) : ¬ t.gaveWay = true := by
  unfold SetTable.gaveWay
  rw [R.tab.mo.odd]
  decide
theorem no_dummy (m : Nat) : ∀ (n : Nat) (p : SetTable.Probe), p.dummy = none → (nth m p n).dummy = none
  | 0, _, h => h
  | n + 1, p, h => no_dummy m n (adv m p) (by unfold adv; split <;> exact h)
/-- the place of a row -/
theorem SetG.place (R : SetG P w s.heap a L es ep t) {i : Nat} (h : i < L.length) : ∃ j, t.place.toList[i]? = some j := by
  have z := R.tab.sz
  rw [List.length_map, ← Array.length_toList] at z
  exact ⟨_, List.getElem?_eq_getElem (by omega)⟩
/-- the search from the c-th step of its way on; K: the first empty place -/
theorem look (R : SetG P w s.heap a L es ep t) (hx : IsT P w s.heap k x) (hu : A.units < cLine) {K : Nat} (hKf : K < 10 * SetTable.turns t.mask) (hK : way t.mask (thash P w k) K ∉ t.place.toList) (hb : ∀ c, c < K → way t.mask (thash P w k) c ∈ t.place.toList)
    {Q : SetFound → Shared → Prop} (yes : k ∈ L.map (·.2) → Q (.there none) s) (no : k ∉ L.map (·.2) → Q (.free (way t.mask (thash P w k) K) false) s) :
    ∀ (f c : Nat) (st : Option SetTable.Probe), st.getD (t.probeStart (thash P w k)) = nth t.mask (runAt t.mask (SetTable.bits (thash P w k) % (t.mask + 1)) (SetTable.bits (thash P w k))) c → c ≤ K → K - c < f →
      (∀ (i : Nat) p, L[i]? = some p → p.2 = k → ∃ d, c ≤ d ∧ d < K ∧ t.place.toList[i]? = some (way t.mask (thash P w k) d)) → wpAny (model P w) A (setSearchFrom a (.ref x) (thash P w k) true f st) Q E s := by
  obtain ⟨o, ho, hex, hd⟩ := R.ob
  intro f
  induction f with
  | zero => exact fun c st _ _ hf _ => absurd hf (Nat.not_lt_zero _)
  | succ f ih =>
    intro c st hst hc hf left
    generalize hp0 : runAt t.mask (SetTable.bits (thash P w k) % (t.mask + 1)) (SetTable.bits (thash P w k)) = p0 at hst ih
    have wj : ∀ q, way t.mask (thash P w k) q = (nth t.mask p0 q).j := fun q => by rw [← hp0]
    have step : ∀ q, nth t.mask (nth t.mask p0 c) q = nth t.mask p0 (c + q) := fun q => (nth_add t.mask c p0 q).symm
    have dn : (nth t.mask p0 c).dummy = none := no_dummy _ _ _ (by rw [← hp0]; rfl)
    have hh : ∀ (i : Nat) p, L[i]? = some p → (fun i => (es[i]?.map (·.1)).getD 0) i = thash P w p.2 := fun i p hp => by
      show (es[i]?.map (·.1)).getD 0 = _
      rw [R.row hp]
      rfl
    rw [setSearchFrom_succ]
    refine wpAny_bind (wpAny_setState_of ho hd R.fits ?_)
    dsimp only
    refine wp_if_neg R.stays ?_
    try refine wpAny_bind (wpAny_pure ?_)
    rw [hst]
    rcases go_spec t R.tab.ris R.tab.dm (fun i => (es[i]?.map (·.1)).getD 0) (thash P w k) (10 * SetTable.turns t.mask) (K - c) (nth t.mask p0 c) dn (by omega) (fun q hq => by rw [step, ← wj]; exact hb _ (by omega)) (by rw [step, ← wj, show c + (K - c) = K by omega]; exact hK) with ⟨q, i, hq, hi, hhi, hno, pr⟩ | ⟨hno, pr⟩
    · have pr2 : t.probe (fun i => (es[i]?.map (·.1)).getD 0) (thash P w k) (nth t.mask p0 c) = some (.candidate (way t.mask (thash P w k) (c + q)) i (nth t.mask p0 (c + (q + 1)))) := by
        rw [wj, ← step, ← step]
        exact pr
      rw [pr2]
      dsimp only
      rw [step, ← wj] at hi
      have il : i < L.length := by
        have z := R.tab.sz
        rw [List.length_map, ← Array.length_toList] at z
        have := (List.getElem?_eq_some_iff.mp hi).1
        omega
      obtain ⟨p, hp⟩ : ∃ p, L[i]? = some p := ⟨_, List.getElem?_eq_getElem il⟩
      have pm : p ∈ L := List.mem_of_getElem? hp
      have go : wpAny (model P w) A (searchRest a (.ref x) (thash P w k) true f es t (way t.mask (thash P w k) (c + q)) i (nth t.mask p0 (c + (q + 1)))) Q E s := by
        unfold searchRest
        rw [R.row hp]
        dsimp only
        refine wpAny_bind (wpAny_holding (wpAny_eqBool_tuple hu (R.its p pm) hx ?_))
        refine wpAny_bind (wpAny_setState_of ho hd R.fits ?_)
        dsimp only
        by_cases e : p.2 = k
        · exact wp_if_pos (by simp [e]) (wpAny_pure (yes (List.mem_map.mpr ⟨p, pm, e⟩)))
        · refine wp_if_neg (by simp [e]) ?_
          try refine wpAny_bind (wpAny_pure ?_)
          rw [sameMem]
          dsimp only
          have sl := slot_live R.tab.ris hi
          simp only [if_true, sl, R.row hp]
          refine wpAny_bind (wpAny_isSame_ref_self (wpAny_bind (wpAny_pure ?_)))
          simp only [if_true]
          refine wp_if_neg (by simp [e]) (ih (c + (q + 1)) _ rfl (by omega) (by omega) fun j r hj hr => ?_)
          obtain ⟨d, d1, d2, d3⟩ := left j r hj hr
          refine ⟨d, ?_, d2, d3⟩
          rcases Nat.lt_trichotomy d (c + q) with z | z | z
          · exact (hno (d - c) j (by omega) (by rw [step, ← wj, show c + (d - c) = d by omega]; exact d3) ((hh j r hj).trans (congrArg (thash P w) hr))).elim
          · rw [z] at d3
            have s2 := slot_live R.tab.ris d3
            rw [sl] at s2
            injection s2 with s2
            rw [← s2, hp] at hj
            cases hj
            exact (e hr).elim
          · omega
      by_cases hl : t.led = true
      · refine wp_if_neg (by simp [hl]) ?_
        try refine wpAny_bind (wpAny_pure ?_)
        exact go
      · refine wp_if_pos (by simp [hl]) (wpAny_bind (seen_tup hx (fun y hy => ?_) ?_))
        · obtain ⟨u, hu', rfl⟩ := List.mem_map.mp hy
          have h1 : u ∈ es ∧ u.1 = thash P w k := by simpa using hu'
          have h2 : u ∈ rowsOf P w L := by rw [← R.rw']; simpa using h1.1
          obtain ⟨r, hr, rfl⟩ := List.mem_map.mp h2
          exact ⟨r.2, r.1, rfl, R.its r hr⟩
        · refine wp_if_neg (by decide) ?_
          try refine wpAny_bind (wpAny_pure ?_)
          exact go
    · have pr2 : t.probe (fun i => (es[i]?.map (·.1)).getD 0) (thash P w k) (nth t.mask p0 c) = some (.empty (way t.mask (thash P w k) K) none) := by
        rw [wj, ← show c + (K - c) = K by omega, ← step]
        exact pr
      rw [pr2]
      dsimp only
      refine wpAny_pure (no fun hm => ?_)
      obtain ⟨r, hr, e⟩ := List.mem_map.mp hm
      obtain ⟨j, hj, ej⟩ := List.getElem_of_mem hr
      have hj2 : L[j]? = some r := by rw [List.getElem?_eq_getElem hj, ej]
      obtain ⟨d, d1, d2, d3⟩ := left j r hj2 e
      exact hno (d - c) j (by omega) (by rw [step, ← wj, show c + (d - c) = d by omega]; exact d3) ((hh j r hj2).trans (congrArg (thash P w) e))
/-- .. as adding asks for it -/
theorem seek (R : SetG P w s.heap a L es ep t) (hx : IsT P w s.heap k x) (hu : A.units < cLine) {Q : SetFound → Shared → Prop} (yes : k ∈ L.map (·.2) → Q (.there none) s)
    (no : ∀ K, k ∉ L.map (·.2) → way t.mask (thash P w k) K ∉ t.place.toList → (∀ c, c < K → way t.mask (thash P w k) c ∈ t.place.toList) → Q (.free (way t.mask (thash P w k) K) false) s) : wpAny (model P w) A (setSearch a (.ref x) (thash P w k) true) Q E s := by
  have room := R.room
  obtain ⟨K, hKf, hK, hb⟩ := R.tab.first (by rw [List.length_map]; omega) (thash P w k)
  have big : K < 100000 := by
    have := R.tab.mo.hi
    unfold SetTable.turns at hKf
    omega
  unfold setSearch
  refine look R hx hu hKf hK hb yes (fun n => no K n hK hb) 100000 0 none rfl (Nat.zero_le _) (by omega) fun i p hp hk => ?_
  obtain ⟨j, hj⟩ := R.place (List.getElem?_eq_some_iff.mp hp).1
  obtain ⟨c, hc, e⟩ := R.tab.before hK (i := i) (by rw [List.getElem?_map, hp, ← hk]; rfl) hj
  exact ⟨c, Nat.zero_le _, hc, by rw [hj, e]⟩
/-- all laid into a larger table -/
theorem lay_anew {o : Obj} (ho : s.heap.get? a = some o) (hex : o.ExactSet) (hd : o.data = .set es ep t) (hr : es.toList = rowsOf P w L) (T : Tab t (L.map fun p => thash P w p.2)) (hm : L.length ≤ t.mask) (one : (L.map (·.2)).Nodup) (its : ∀ p ∈ L, IsT P w s.heap p.2 p.1) (pln : t.plain = true)
    (ldd : w.params.followText "set-order" = true ∨ t.led = true) (h0 : 1 ≤ L.length) (few : L.length < 2000) {Q : Unit → Shared → Prop}
    (hQ : ∀ h' L' es' ep' t', Heap.SameBut a s.heap h' → SetG P w h' a L' es' ep' t' → L'.Perm L → Q () { s with heap := h' }) : wpAny (model P w) A (setRelay a (SetTable.grown L.length)) Q E s := by
  have sz := rows_size hr
  obtain ⟨hM, h8, h4⟩ := above_ok h0 (by omega)
  obtain ⟨t', ord, e, pm, T', em, el, ep'⟩ := laid_new t (hs := es.map (·.1)) rfl hM (by rw [Array.size_map, sz]; omega)
  rw [Array.size_map, sz] at pm
  obtain ⟨L2, r1, r2, r3⟩ := order_rows L es ord hr pm
  rw [← r3] at T'
  have s2 : (ord.filterMap (es[·]?)).size = es.size := by rw [rows_size r1, r2.length_eq, sz]
  rw [setRelay_eq]
  refine wpAny_bind (wpAny_setState_of ho hd (fits_of T hr hm) ?_)
  dsimp only
  refine wp_if_neg (by rw [sizeLine_eq]; omega) ?_
  try refine wpAny_bind (wpAny_pure ?_)
  rw [e]
  dsimp only
  refine wpAny_bind (wp_if_neg (by rw [s2]; simp) ?_)
  try refine wpAny_bind (wpAny_pure ?_)
  refine wpAny_pure ?_
  dsimp only
  refine wpAny_storeSet_of ho hd ?_ (by rw [s2, sz, sizeLine_eq]; omega)
  have sb : Heap.SameBut a s.heap (s.heap.update a (Obj.putSet (ord.filterMap (es[·]?)) t')) := Heap.SameBut.update ..
  exact hQ _ L2 _ (ep + 1) t' sb ⟨⟨_, store_at ho hd, ⟨hex.1, hex.2.1, hex.2.2⟩, rfl⟩, r1, T', (r2.map (·.2)).nodup_iff.mpr one, fun p hp => isT_same (its p (r2.mem_iff.mp hp)) ho hd sb, by rw [ep']; exact pln, by rw [el]; exact ldd, by rw [r2.length_eq, em]; omega, by rw [r2.length_eq]; exact few⟩ r2
/-- one more -/
theorem add_one (R : SetG P w s.heap a L es ep t) (hx : IsT P w s.heap k x) (hu : A.units < cLine) (hfew : L.length + 1 < 2000) {Q : Bool → Shared → Prop}
    (hQ : ∀ b h' L' es' ep' t', Heap.SameBut a s.heap h' → SetG P w h' a L' es' ep' t' → (k ∈ L.map (·.2) → L' = L) → (k ∉ L.map (·.2) → L'.Perm ((x, k) :: L)) → Q b { s with heap := h' }) : wpAny (model P w) A (setAddHashed a (.ref x) (thash P w k)) Q E s := by
  obtain ⟨o, ho, hex, hd⟩ := R.ob
  have sz := rows_size R.rw'
  have room := R.room
  unfold setAddHashed
  refine wpAny_holding ?_
  rw [show (100000 : Nat) = 99999 + 1 from rfl, setAddHashedIn_succ]
  refine wpAny_bind (wpAny_setState_of ho hd R.fits ?_)
  dsimp only
  refine wp_if_neg (by simp [byScan, Value.scannable]) ?_
  try refine wpAny_bind (wpAny_pure ?_)
  refine wpAny_bind (seek R hx hu (fun hm => ?_) fun K hm hK hb => ?_)
  · dsimp only
    exact wpAny_pure (hQ false s.heap L es ep t (Heap.SameBut.refl a s.heap) R (fun _ => rfl) fun z => absurd hm z)
  · dsimp only
    refine wpAny_bind (wpAny_setState_of ho hd R.fits ?_)
    dsimp only
    generalize hj : way t.mask (thash P w k) K = j at hK ⊢
    obtain ⟨hp, T1, fl⟩ := R.tab.put (j := j) (p := SetTable.below t.place j) (by rw [hj]; exact hK) hb hj.symm rfl
    have e2 : (t.put j).2 = SetTable.below t.place j := rfl
    have em : (t.put j).1.mask = t.mask := rfl
    have el : (t.put j).1.led = t.led := rfl
    have pl1 : (t.put j).1.plain = true := R.pln
    generalize t.put j = pt at e2 em el pl1 T1 fl ⊢
    obtain ⟨t1, p1⟩ := pt
    dsimp only at e2 em el pl1 T1 fl ⊢
    subst e2
    first
      | (refine wpAny_bind ?_; refine wp_if_pos pl1 ?_; refine hashBy_tup hx ?_)
      | refine wp_if_pos pl1 (wpAny_bind (hashBy_tup hx ?_))
    simp only [if_true]
    generalize SetTable.below t.place j = p at hp T1 ⊢
    have er : (SetTable.insertAt es p (thash P w k, Value.ref x)).toList = rowsOf P w (L.take p ++ (x, k) :: L.drop p) := by rw [SetTable.toList_insertAt, rows_put, R.rw']
    have pm := put_perm L p (x, k)
    have eh : (L.map fun p => thash P w p.2).take p ++ thash P w k :: (L.map fun p => thash P w p.2).drop p = (L.take p ++ (x, k) :: L.drop p).map (fun p => thash P w p.2) := by simp
    rw [eh] at T1
    rw [List.length_map] at fl
    generalize L.take p ++ (x, k) :: L.drop p = L1 at er pm T1
    generalize SetTable.insertAt es p (thash P w k, Value.ref x) = es1 at er ⊢
    have len : L1.length = L.length + 1 := pm.length_eq
    have one1 : (L1.map (·.2)).Nodup := (pm.map (·.2)).nodup_iff.mpr (List.nodup_cons.mpr ⟨hm, R.one⟩)
    have sz1 := rows_size er
    refine wpAny_bind (wpAny_storeSet_of ho hd ?_ (by rw [sz1, len, sizeLine_eq]; omega))
    have sb : Heap.SameBut a s.heap (s.heap.update a (Obj.putSet es1 t1)) := Heap.SameBut.update ..
    have ho1 := store_at (es' := es1) (t' := t1) ho hd
    generalize s.heap.update a (Obj.putSet es1 t1) = h1 at sb ho1 ⊢
    have its1 : ∀ p ∈ L1, IsT P w h1 p.2 p.1 := fun p hp => by
      rcases List.mem_cons.mp (pm.mem_iff.mp hp) with e | hp
      · rw [e]
        exact isT_same hx ho hd sb
      · exact isT_same (R.its p hp) ho hd sb
    have ld1 : w.params.followText "set-order" = true ∨ t1.led = true := by rw [el]; exact R.ldd
    by_cases hf : t1.tooFull = true
    · first
        | (refine wpAny_bind ?_; refine wp_if_pos (by simp [hf]) ?_)
        | (refine wp_if_pos (by simp [hf]) ?_; refine wpAny_bind ?_)
      rw [sz, ← len]
      refine lay_anew (s := { s with heap := h1 }) ho1 ⟨hex.1, hex.2.1, hex.2.2⟩ rfl er T1 ?_ one1 its1 pl1 ld1 (by omega) (by omega) fun h2 L2 es2 ep2 t2 sb2 R2 pm2 => wpAny_pure (hQ true h2 L2 es2 ep2 t2 (sb.trans sb2) R2 (fun z => absurd z hm) fun _ => pm2.trans pm)
      rw [len, em]
      have := R.tab.mo.lo
      omega
    · first
        | refine wp_if_neg (by simp [hf]) ?_
        | (refine wpAny_bind ?_; refine wp_if_neg (by simp [hf]) ?_; refine wpAny_pure ?_)
      refine wpAny_pure (hQ true h1 L1 es1 (ep + 1) t1 sb ⟨⟨_, ho1, ⟨hex.1, hex.2.1, hex.2.2⟩, rfl⟩, er, T1, one1, its1, pl1, ld1, ?_, by rw [len]; exact hfew⟩ (fun z => absurd z hm) fun _ => pm)
      unfold SetTable.tooFull at hf
      rw [decide_eq_true_eq, fl] at hf
      rw [len]
      omega
theorem SetG.keep {h h' : Heap} (R : SetG P w h a L es ep t) (ha : ∀ o, h.get? a = some o → h'.get? a = some o) (ht : ∀ p ∈ L, IsT P w h' p.2 p.1) : SetG P w h' a L es ep t := by
  obtain ⟨o, ho, r⟩ := R.ob
  exact ⟨⟨o, ha o ho, r⟩, R.rw', R.tab, R.one, ht, R.pln, R.ldd, R.room, R.few⟩
/-- a new set -/
theorem setG_new {h : Heap} (ho : h.get? a = some { cls := .type "set", dict := none, data := .set #[] 0 (.fresh 0 0 (!w.params.followText "set-order")) }) : SetG P w h a [] #[] 0 (.fresh 0 0 (!w.params.followText "set-order")) :=
  ⟨⟨_, ho, ⟨rfl, rfl, rfl⟩, rfl⟩, rfl, ⟨List.Pairwise.nil, rfl, rfl, ⟨⟨3, rfl⟩, Nat.le_of_ble_eq_true rfl, Nat.le_of_ble_eq_true rfl⟩, fun x hx => (nomatch hx), fun i h j hi => (by simp at hi)⟩, List.nodup_nil, fun p hp => (nomatch hp), rfl, by
    show _ ∨ (!w.params.followText "set-order") = true
    cases w.params.followText "set-order"
    · exact .inr rfl
    · exact .inl rfl, by show 0 * 5 < 7 * 3; decide, by show 0 < 2000; decide⟩
end
end Bg

set_option Elab.async false
set_option linter.all false
set_option maxRecDepth 100000
set_option maxHeartbeats 4000000
namespace Bg
open PySem PySem.Spec PyProof.Rows L2 Fw
section
variable {P : Program} {w : World} {A : Around} {E : Value → Shared → Prop} {s : Shared} {a x : Addr} {L : List (Addr × List Int)} {es : Array (Int × Value)} {ep : Nat} {t : SetTable} {k : List Int}
/-- s.add(x) -/
theorem call_add (R : SetG P w s.heap a L es ep t) (hx : IsT P w s.heap k x) (hu : A.units + 3 < cLine) (hfew : L.length + 1 < 2000) {Q : Value → Shared → Prop}
    (hQ : ∀ h' tk L' es' ep' t', Heap.SameBut a s.heap h' → SetG P w h' a L' es' ep' t' → (k ∈ L.map (·.2) → L' = L) → (k ∉ L.map (·.2) → L'.Perm ((x, k) :: L)) → s.toks ≤ tk → Q .none { s with heap := h', toks := tk }) : wpAny (model P w) A (call (.builtin "set.add") [.ref a, .ref x]) Q E s := by
  obtain ⟨o, ho, hex, hd⟩ := R.ob
  refine wpAny_call_entry F.slot_set_add ⟨o, ho, hex.1⟩ F.entry_set_add ?_ (F.args_set_add_2 _ _)
  unfold Builtin.«set.add» Builtin.Frozenset.oneOther; simp only [List.isEmpty_nil, bind_assoc]
  unfold Builtin.Frozenset.addrOf setAdd
  refine wpAny_bind (wpAny_pure ?_); try dsimp only
  refine wpAny_bind (wpAny_pure ?_); try dsimp only
  refine wpAny_bind (wpAny_holding (wpAny_bind (wpAny_pyHash_tuple (by first | omega | (simp only [Around.in1_units]; omega)) hx ?_)))
  refine add_one (s := { s with toks := s.toks + (k.length + 1) }) R hx (by first | omega | (simp only [Around.in1_units]; omega)) hfew fun b h' L' es' ep' t' sb R' c1 c2 => ?_
  show wpAny _ _ (ret Value.none) _ _ _
  exact wpAny_pure ⟨_, rfl, hQ h' _ L' es' ep' t' sb R' c1 c2 (Nat.le_add_right _ _)⟩
/-- set.update's loop over the rows ks -/
theorem update_all {I : Addr} {fp wr : List Addr} {G : Array GenState → Array GenState → Prop} {n : Nat} {Pv : Nat → Value → Prop} {St : Nat → Shared → Prop} {R : Result → Shared → Prop} (W : WalksS P w A.in1 I fp wr G n Pv St) (D : Addr) (hD : D ∉ fp) (ks : List (Addr × List Int)) (hn : n = ks.length)
    (hfew : ks.length < 2000) (hv : ∀ i v, Pv i v → ∃ p, ks[i]? = some p ∧ v = .ref p.1) (h0 : Heap) (hk : ∀ p ∈ ks, IsT P w h0 p.2 p.1) (hD0 : h0.get? D = none) (hw : ∀ b ∈ wr, h0.get? b = none) (hu : A.in1.units < cLine) :
    ∀ (m i : Nat) (s : Shared), n - i = m → i ≤ n → St i s → (∀ b o, h0.get? b = some o → s.heap.get? b = some o) → (∃ L es ep t, SetG P w s.heap D L es ep t ∧ Got ks i L) →
      (∀ s' L es ep t, Moved (D :: wr) G s s' → SetG P w s'.heap D L es ep t → Got ks n L → (∀ b o, h0.get? b = some o → s'.heap.get? b = some o) → R (.ok (.ret .none)) s') → codeAny (model P w) A (.builtin "set.update.loop" ⟨[.ref D, .ref I], []⟩) R s := by
  have Dw : D ∉ wr := fun h => hD (W.sub _ h)
  have inw : ∀ b ∈ wr, b ∈ D :: wr := fun b hb => List.mem_cons_of_mem _ hb
  have kp : ∀ {s s' : Shared}, Moved wr G s s' → (∀ b o, h0.get? b = some o → s.heap.get? b = some o) → ∀ b o, h0.get? b = some o → s'.heap.get? b = some o := fun hm h b o e => hm.heap b o (fun hb => by rw [hw b hb] at e; cases e) (h b o e)
  have into : ∀ {i : Nat} {L : List (Addr × List Int)}, Got ks i L → ∀ p ∈ L, p ∈ ks := fun g p hp => List.mem_of_mem_take (g.sub p hp)
  intro m
  induction m with
  | zero =>
    intro i s hm hi st hkp ⟨L, es, ep, t, hS, g⟩ hR
    obtain rfl : i = n := by omega
    refine codeAny_builtin F.entry_set_update_loop ?_; rw [Around.under_plainId F.plain_set_update_loop _]
    show wpAny _ A.in1 (pyNext (.ref I) >>= _) _ _ s
    refine wpAny_bind (W.done s _ _ st fun s' hm => ?_)
    exact wpAny_pure (hR s' L es ep t ⟨fun b o hb e => hm.heap b o (fun z => hb (inw b z)) e, hm.gens, hm.drawn, hm.os, hm.toks⟩ (hS.keep (fun o e => hm.heap D o Dw e) fun p hp => isT_keep (hk p (into g p hp)) (kp hm hkp)) g (kp hm hkp))
  | succ m ih =>
    intro i s hm hi st hkp ⟨L, es, ep, t, hS, g⟩ hR
    refine codeAny_builtin F.entry_set_update_loop ?_; rw [Around.under_plainId F.plain_set_update_loop _]
    show wpAny _ A.in1 (pyNext (.ref I) >>= _) _ _ s
    refine wpAny_bind (W.item i s _ _ (by omega) st fun v s1 hP st1 m1 => ?_)
    obtain ⟨p, hp, rfl⟩ := hv i v hP
    have k1 := kp m1 hkp
    have hS1 : SetG P w s1.heap D L es ep t := hS.keep (fun o e => m1.heap D o Dw e) fun q hq => isT_keep (hk q (into g q hq)) k1
    have hx : IsT P w s1.heap p.2 p.1 := isT_keep (hk p (List.mem_of_getElem? hp)) k1
    show wpAny _ A.in1 (holding [Value.ref p.1] (setAdd D (.ref p.1)) >>= _) _ _ s1
    unfold setAdd
    refine wpAny_bind (wpAny_holding (wpAny_holding (wpAny_bind (wpAny_pyHash_tuple hu hx ?_))))
    refine add_one (s := { s1 with toks := s1.toks + (p.2.length + 1) }) hS1 hx hu (by have := g.len; omega) fun b h' L' es' ep' t' sb R' c1 c2 => ?_
    have g' : Got ks (i + 1) L' := by
      by_cases c : p.2 ∈ L.map (·.2)
      · rw [c1 c]
        exact g.same hp c
      · exact g.more hp (c2 c)
    have k2 : ∀ b o, h0.get? b = some o → h'.get? b = some o := fun b o e => (sb.2 b (fun z => by rw [z, hD0] at e; cases e)).trans (k1 b o e)
    refine wpAny_pure ⟨plainId_quiet F.plain_set_update_loop _, ih (i + 1) _ (by omega) (by omega) (W.frame _ s1 _ _ st1 (Nat.le_add_right _ _) fun b hb o e => (sb.2 b fun z => hD (z ▸ hb)).trans e) k2 ⟨L', es', ep', t', R', g'⟩ fun s2 L2 es2 ep2 t2 m2 hS2 g2 k3 => hR s2 L2 es2 ep2 t2 ⟨fun b o hb e => m2.heap b o hb ?_, W.gtrans _ _ _ m1.gens m2.gens, m2.drawn.trans m1.drawn, m2.os.trans m1.os, ?_⟩ hS2 g2 k3⟩
    · exact (sb.2 b fun z => hb (z ▸ List.mem_cons_self)).trans (m1.heap b o (fun z => hb (inw b z)) e)
    · exact Nat.le_trans m1.toks (Nat.le_trans (Nat.le_add_right _ _) m2.toks)
set_option maxHeartbeats 3200000 in
/-- set(xs) of a list of tuples -/
theorem call_set {l : Addr} {items : Array Value} (ks : List (Addr × List Int)) {Q : Value → Shared → Prop} (hh : A.handled = none) (hl : s.heap.IsList l items) (hit : items.toList = ks.map fun p => Value.ref p.1) (hk : ∀ p ∈ ks, IsT P w s.heap p.2 p.1) (hfew : ks.length < 2000) (hu : A.units + 3 < cLine)
    (h : ∀ (h' : Heap) (tk : Nat) L es ep t, SetG P w h' s.heap.objs.size L es ep t → Got ks ks.length L → (∀ b o, s.heap.get? b = some o → h'.get? b = some o) → Q (.ref s.heap.objs.size) { s with heap := h', toks := tk }) : wpAny (model P w) A (call (.type "set") [.ref l]) Q E s := by
  generalize hD : s.heap.objs.size = D at h
  generalize ho : ({ cls := .type "set", dict := none, data := .set #[] 0 (.fresh 0 0 (!w.params.followText "set-order")) } : Obj) = ob
  have isz : items.size = ks.length := by rw [← Array.length_toList, hit, List.length_map]
  obtain ⟨c, tl, hmro⟩ := F.called_set.mro
  have hmade := F.called_set.made; have hsub := F.called_set.sub; have h1 := F.called_set.notType; have h2 := F.called_set.canCreate; have hct := F.typeCall_set_1 (.ref l)
  refine wpAny_call (codeAny_of_tree ?_); show wpAny _ _ (callAny (.type "set") _) _ _ _
  refine wpAny_pure ⟨Code.quiet_builtin _ (by decide +kernel), codeAny_builtin F.entry_type_call ?_⟩; rw [Around.under_plain (weight_type_call_type "set" [.ref l] []) rfl]
  repeat (any_goals (first | assumption | wp_step))
  refine codeAny_mono (code_set_led1 (.ref l) (E := E) (Q₁ := fun u s₁ => u = .ref D ∧ s₁ = { s with heap := s.heap.push ob }) ⟨by rw [hD], by rw [← ho]⟩) fun r s1 hr => ?_
  match r, hr with
  | .error e, hr => exact hr
  | .ok .next, hr => exact hr.elim
  | .ok .brk, hr => exact hr.elim
  | .ok .cont, hr => exact hr.elim
  | .ok (.ret u), hr =>
    obtain ⟨rfl, rfl⟩ := hr
    have atD : (s.heap.push ob).get? D = some ob := by rw [← hD]; exact Heap.get?_push_size _ (by rw [← ho]; rfl)
    have oc : ob.cls = .type "set" := by rw [← ho]
    have hT : Shared.TypeIs { s with heap := s.heap.push ob } (.ref D) "set" := ⟨_, atD, oc⟩
    have hli := F.called_set.init.lookup; have hbi := F.called_set.init.bind (.ref D)
    repeat (any_goals (first | assumption | wp_step))
    refine codeAny_mono (codeAny_call_builtin (R := wants (fun r s₂ => r = .none ∧ ∃ h' tk L es ep t, s₂ = { s with heap := h', toks := tk } ∧ SetG P w h' D L es ep t ∧ Got ks ks.length L ∧ ∀ b o, s.heap.get? b = some o → h'.get? b = some o) E) F.called_set.init.plain F.entry_set_init (check_set_init_1 hT ?_)) fun r2 s2 hr2 => ?_
    · have keep1 : ∀ b o, s.heap.get? b = some o → (s.heap.push ob).get? b = some o := fun b o e => Heap.get?_push_of_some _ e
      obtain ⟨ol, hol, hcl, nl, hdl⟩ := hl
      obtain ⟨ocls, odict, odata, oslots⟩ := ol
      simp only at hcl hdl; subst hcl; subst hdl
      have lD : l < D := by rw [← hD]; exact Heap.lt_size hol
      have hol' := keep1 _ _ hol
      have hl1 : (s.heap.push ob).IsList l items := ⟨_, hol', rfl, nl, rfl⟩
      have hsls := F.sub_list_set; have hslf := F.sub_list_frozenset
      have hne : (Value.type "list" == Value.type "dict") = false := by decide
      have z1 : (s.heap.push ob).objs.size = D + 1 := by rw [← hD]; exact Heap.size_push ..
      have none_of : ∀ b, D ≤ b → s.heap.get? b = none := fun b hb => by
        cases q : s.heap.get? b with
        | none => rfl
        | some o =>
          have lt := Heap.lt_size q
          rw [hD] at lt
          exact absurd lt (Nat.not_lt.mpr hb)
      have hI : l ≠ (s.heap.push ob).objs.size := Nat.ne_of_lt (by rw [z1]; exact Nat.lt_succ_of_lt lD)
      have W := (Walks.list (A := A.in1.in1.in1) (by simp [hh]) (s.heap.push ob).objs.size l hI items).toS (prog := P) (w := w)
      have nD : D ∉ [(s.heap.push ob).objs.size, l] := fun z => by
        rcases List.mem_cons.mp z with z | z
        · rw [z1] at z; exact absurd z (Nat.ne_of_lt (Nat.lt_succ_self D))
        · exact absurd (List.mem_singleton.mp z) (Nat.ne_of_gt lD)
      have nI : s.heap.get? (s.heap.push ob).objs.size = none := none_of _ (by rw [z1]; exact Nat.le_succ D)
      subst ho; unfold Builtin.«set.__init__» noKeywords Builtin.Frozenset.updateFrom
      generalize hPI : pyIter = PI; wp_walk; subst hPI
      refine wpAny_pyIter_list hl1 ?_
      refine wpAny_bind (wpAny_runValue ?_)
      refine update_all W D nD ks isz hfew (fun i v hv => ?_) s.heap hk (none_of _ (Nat.le_refl _)) (fun b hb => by rw [List.mem_singleton.mp hb]; exact nI) hu (items.size - 0) 0 _ (by omega) (Nat.zero_le _) ⟨⟨_, Heap.get?_push_size _ rfl, rfl, rfl⟩, hl1.push _⟩
        (fun b o e => Heap.get?_push_of_some _ (keep1 b o e)) ⟨[], #[], 0, _, setG_new (Heap.get?_push_of_some _ atD), Got.zero ks⟩ fun s' L es ep t hm hS g hkp => ?_
      · have q : items.toList[i]? = some v := by rw [Array.getElem?_toList]; exact hv
        rw [hit, List.getElem?_map] at q
        obtain ⟨p, hp, e⟩ := Option.map_eq_some_iff.mp q
        exact ⟨p, hp, e.symm⟩
      · obtain ⟨h', g2, d2, tk, os2⟩ := s'
        obtain rfl : g2 = s.gens := hm.gens
        obtain rfl : d2 = s.drawn := hm.drawn
        obtain rfl : os2 = s.os := hm.os
        show wpAny _ _ _ _ _ _
        refine wpAny_pure ?_
        show wpAny _ _ (ret Value.none) _ _ _
        rw [isz] at g
        exact wpAny_pure ⟨rfl, h', tk, L, es, ep, t, rfl, hS, g, hkp⟩
    · match r2, hr2 with
      | .error e, hr2 => exact hr2
      | .ok .next, hr2 => exact hr2.elim
      | .ok .brk, hr2 => exact hr2.elim
      | .ok .cont, hr2 => exact hr2.elim
      | .ok (.ret u), hr2 =>
        obtain ⟨rfl, h', tk, L, es, ep, t, rfl, hS, g, hkp⟩ := hr2
        repeat (any_goals (first | assumption | wp_step))
        exact h _ _ _ _ _ _ hS g hkp
end
end Bg

set_option Elab.async false
set_option linter.all false
set_option maxRecDepth 100000
set_option maxHeartbeats 4000000
namespace Bg
open PySem PySem.Spec PyProof.Rows L2 Fw
section
variable {P : Program} {w : World} {A : Around} {E : Value → Shared → Prop} {s : Shared} {a x : Addr} {L : List (Addr × List Int)} {es : Array (Int × Value)} {ep : Nat} {t : SetTable} {k : List Int}
/-- sorted(set) of pairs of any numbers, any number of them -/
theorem sort_set {Q : Value → Shared → Prop} (R : SetG P w s.heap a L es ep t) (hh : A.handled = none) (h2 : ∀ p ∈ L, p.2.length = 2)
    (hQ : ∀ s' p (out : Array Value) (c : Nat) (L' : List (Addr × List Int)), (∀ b o, s.heap.get? b = some o → s'.heap.get? b = some o) → s'.gens = s.gens → s'.os = s.os → s.heap.objs.size ≤ p → s'.heap.get? p = some (seqObj "list" out c) →
      out.toList = L'.map (fun q => Value.ref q.1) → L'.Perm L → L'.Pairwise (fun q r => SrtO.lexB (fwKey r.2) (fwKey q.2) = false) → Q (.ref p) s') : wpAny (model P w) A (call (.builtin "sorted") [.ref a]) Q E s := by
  obtain ⟨o, ho, hex, hd⟩ := R.ob
  have hsz := rows_size R.rw'
  have few := R.few
  refine Calls.call_function_entry kind_sorted plain_sorted entry_sorted (args_sorted1 _) ?_
  unfold Builtin.«sorted»; refine wpAny_bind (m := checkCount "sorted" 1 1 _) (wpAny_pure ?_)
  refine wpAny_bind (collect_set (A := A.in1) hh ⟨o, ho, hex.1, hd⟩ R.fits (by unfold scanBound; omega) R.tab.ris R.ldd fun s1 vs k1 hz g1 o1 pm => ?_)
  have he : es.toList.map (·.2) = L.map fun q => Value.ref q.1 := by
    rw [R.rw']; unfold rowsOf; rw [List.map_map] <;> rfl
  rw [he] at pm
  have back : ∀ us : List Value, (∀ v ∈ us, ∃ q ∈ L, v = Value.ref q.1) → ∃ L1 : List (Addr × List Int), us = L1.map (fun q => Value.ref q.1) ∧ ∀ q ∈ L1, q ∈ L := fun us => by
    induction us with
    | nil => exact fun _ => ⟨[], rfl, fun q hq => nomatch hq⟩
    | cons v us ih =>
      intro hv
      obtain ⟨q, hq, e⟩ := hv v List.mem_cons_self
      obtain ⟨L1, e1, hs⟩ := ih fun u hu => hv u (List.mem_cons_of_mem _ hu)
      exact ⟨q :: L1, by rw [List.map_cons, e, e1], fun r hr => (List.mem_cons.mp hr).elim (fun z => z ▸ hq) (hs r)⟩
  have one : ∀ q ∈ L, ∀ r ∈ L, q.1 = r.1 → q = r := fun q hq r hr e => by
    have a1 := R.its q hq; have a2 := R.its r hr
    rw [e] at a1; exact Prod.ext e (a1.inj a2)
  have len : vs.length < 2000 := by rw [pm.length_eq, List.length_map]; exact few
  refine wpAny_bind (wpAny_newList ?_ (by rw [sizeLine_eq]; omega))
  have hl : (s1.heap.push (seqObj "list" vs.toArray 0)).get? s1.heap.objs.size = some (seqObj "list" vs.toArray 0) := Heap.get?_push_size _ rfl
  have tk : ∀ q ∈ L, TS.TupInts (s1.heap.push (seqObj "list" vs.toArray 0)) (.ref q.1) q.2 := fun q hq => tupInts_of (P := P) (w := w) (isT_keep (R.its q hq) fun b u e => Heap.get?_push_of_some _ (k1 b u e))
  have pr : ∀ v ∈ vs, Srt.IsPair (s1.heap.push (seqObj "list" vs.toArray 0)) v (fwKey (TS.intsOf (s1.heap.push (seqObj "list" vs.toArray 0)) v)).1 (fwKey (TS.intsOf (s1.heap.push (seqObj "list" vs.toArray 0)) v)).2 := fun v hv => by
    obtain ⟨q, hq, e⟩ := List.mem_map.mp (pm.mem_iff.mp hv)
    rw [← e, (tk q hq).ints]
    exact fw_pair (tk q hq) (h2 q hq)
  refine wpAny_bind (wpAny_holding (wpAny_call_entry slot_list_sort ⟨_, hl, rfl⟩ entry_list_sort (SrtO.list_sort_ord (s := { s1 with heap := s1.heap.push (seqObj "list" vs.toArray 0) }) (SrtO.swo_lex fun v => fwKey (TS.intsOf (s1.heap.push (seqObj "list" vs.toArray 0)) v)) hl (by rw [sizeLine_eq]; omega)
    (fun h3 => SrtO.pairs_sortableO (s := { s1 with heap := s1.heap.push (seqObj "list" vs.toArray 0) }) (by omega) pr fun o e => ?_) fun out hs hb => ⟨_, rfl, ?_⟩) (args_list_sort _)))
  · have e' : some o = some (seqObj "list" vs.toArray 0) := e.symm.trans hl
    cases e'
    exact fun c => absurd (Value.type.inj c) (by decide)
  · obtain ⟨c, hc⟩ := sortedHeap_at (vs := vs) (out := out.toArray) hl
    obtain ⟨L', e', hs'⟩ := back out fun v hv => by
      obtain ⟨q, hq, e⟩ := List.mem_map.mp (pm.mem_iff.mp (hb.perm.mem_iff.mp hv))
      exact ⟨q, hq, e.symm⟩
    have nL : L.Nodup := nodup_of_map R.one
    have nref : (L.map fun q => Value.ref q.1).Nodup := by
      refine List.pairwise_map.mpr (List.Pairwise.imp_of_mem (fun {q r} hq hr hne e => hne (one q hq r hr (Value.ref.inj e))) nL)
    have pL0 : (L'.map (fun q => Value.ref q.1)).Perm (L.map fun q => Value.ref q.1) := by rw [← e']; exact hb.perm.trans pm
    have n1 : L'.Nodup := nodup_of_map (pL0.nodup_iff.mpr nref)
    have pL : L'.Perm L := (List.perm_ext_iff_of_nodup n1 nL).mpr fun q => ⟨hs' q, fun hq => by
      obtain ⟨r, hr, e⟩ := List.mem_map.mp (pL0.mem_iff.mpr (List.mem_map.mpr ⟨q, hq, rfl⟩))
      rw [← one r (hs' r hr) q hq (Value.ref.inj e)]
      exact hr⟩
    have pw : L'.Pairwise (fun q r => SrtO.lexB (fwKey r.2) (fwKey q.2) = false) := by
      have hs2 := hs
      rw [e'] at hs2
      refine List.Pairwise.imp_of_mem (fun {q r} hq hr hle => ?_) (List.pairwise_map.mp hs2)
      rw [← (tk q (hs' q hq)).ints, ← (tk r (hs' r hr)).ints]
      exact hle
    refine wpAny_pure ⟨_, rfl, hQ _ s1.heap.objs.size out.toArray c L' (fun b u e => ?_) g1 o1 hz hc (by simpa using e') pL pw⟩
    have q := k1 b u e
    have hlt := Heap.lt_size q
    show (sortedHeap (s1.heap.push (seqObj "list" vs.toArray 0)) s1.heap.objs.size vs out.toArray).get? b = some u
    rw [sortedHeap_old (Nat.ne_of_lt hlt) (by rw [size_push']; exact Nat.lt_succ_of_lt hlt)]
    exact Heap.get?_push_of_some _ q
end
/-! over the layer -/
/-- the set at a without its tuples -/
def SetG0 (P : Program) (w : World) (h : Heap) (a : Addr) (L : List (Addr × List Int)) : Prop := ∃ (es : Array (Int × Value)) (ep : Nat) (t : SetTable) (o : Obj), h.get? a = some o ∧ o.ExactSet ∧ o.data = .set es ep t ∧ es.toList = rowsOf P w L ∧ Tab t (L.map fun p => thash P w p.2) ∧
  (L.map (·.2)).Nodup ∧ t.plain = true ∧ (w.params.followText "set-order" = true ∨ t.led = true) ∧ L.length * 5 < t.mask * 3 ∧ L.length < 2000
def SetGO (P : Program) (w : World) (a : Addr) (L : List (Addr × List Int)) : HO := .ext fun h => SetG0 P w h a L
section
variable {P : Program} {w : World} {h : Heap} {H : Hp} {a : Addr} {L : List (Addr × List Int)} {es : Array (Int × Value)} {ep : Nat} {t : SetTable}
theorem SetG.g0 (R : SetG P w h a L es ep t) : SetG0 P w h a L := by
  obtain ⟨o, ho, hex, hd⟩ := R.ob
  exact ⟨es, ep, t, o, ho, hex, hd, R.rw', R.tab, R.one, R.pln, R.ldd, R.room, R.few⟩
theorem SetG0.full (R : SetG0 P w h a L) (ht : ∀ p ∈ L, IsT P w h p.2 p.1) : ∃ es ep t, SetG P w h a L es ep t := by
  obtain ⟨es, ep, t, o, ho, hex, hd, a1, a2, a3, a4, a5, a6, a7⟩ := R
  exact ⟨es, ep, t, ⟨o, ho, hex, hd⟩, a1, a2, a3, ht, a4, a5, a6, a7⟩
theorem setGO_ok (R : SetG0 P w h a L) : ObjOk P w H h a (SetGO P w a L) := by
  have ⟨es, ep, t, o, ho, q⟩ := R
  refine ⟨R, ⟨o, ho⟩, fun h1 h2 p k => ?_⟩
  obtain ⟨es', ep', t', o', ho', q'⟩ : SetG0 P w h1 a L := p
  exact ⟨es', ep', t', o', k o' ho', q'⟩
end
section
variable {X : Cx}
/-- set(xs) -/
def rSetG (K : PySem.W.Frag) (P : Program) (w : World) : List V → Hp → VK → Prop := fun xs H Q => ∃ (l : Addr) (ks : List (Addr × List Int)), xs = [V.ref l] ∧ SqL K H l (ks.map fun p => V.ref p.1) ∧ (∀ p ∈ ks, SqT K H p.1 (p.2.map V.int)) ∧ ks.length < 2000 ∧
  ∀ a L, H a = none → (∀ p ∈ L, p ∈ ks) → (∀ p ∈ ks, p.2 ∈ L.map (·.2)) → Q (.ref a) (upd H a (SetGO P w a L))
theorem cr_setG (hc : X.calm = true) (hu : X.A.units + 64 < cLine) : CallR X (.type "set") (rSetG X.K X.prog X.w) := by
  intro pins s σ H xs us Q I r h
  obtain ⟨l, ks, rfl, hl, hk, hf, q⟩ := h
  obtain ⟨its, rv, pl, hz⟩ := I.list hl
  rw [Vals.ref1 r]
  refine call_set ks (I.ok.hd hc) pl.isList (by simpa using refs_of_vals rv) (fun p hp => I.isT (hk p hp)) hf (by omega) fun h' tk L es ep t R g k => ⟨.ref s.heap.objs.size, upd H s.heap.objs.size (SetGO X.prog X.w s.heap.objs.size L), I.laid (t' := tk) k (Nat.le_refl _) (setGO_ok R.g0), rfl, q _ L (I.hok.fresh (Nat.le_refl _)) (fun p hp => List.mem_of_mem_take (g.sub p hp)) fun p hp => g.all p (by rw [List.take_length]; exact hp)⟩
/-- sorted(set) -/
def rSortG (K : PySem.W.Frag) (P : Program) (w : World) : List V → Hp → VK → Prop := fun vs H Q => ∃ (a : Addr) (L : List (Addr × List Int)), vs = [V.ref a] ∧ H a = some (SetGO P w a L) ∧ (∀ p ∈ L, SqT K H p.1 (p.2.map V.int)) ∧ (∀ p ∈ L, p.2.length = 2) ∧
  ∀ (L' : List (Addr × List Int)) (p : Addr), L'.Perm L → (L'.map (·.2)).Nodup → L'.Pairwise (fun q r => SrtO.lexB (fwKey r.2) (fwKey q.2) = false) → H p = none → Q (.ref p) (upd H p (.lst (L'.map fun q => V.ref q.1)))
theorem cr_sortG (hc : X.calm = true) : CallR X (.builtin "sorted") (rSortG X.K X.prog X.w) := by
  intro pins s σ H vs us Q I r h
  obtain ⟨a, L, rfl, ha, hk, h2, q⟩ := h
  have R0 : SetG0 X.prog X.w s.heap a L := (I.hok a _ ha).1
  obtain ⟨es, ep, t, R⟩ := R0.full fun p hp => I.isT (hk p hp)
  rw [Vals.ref1 r]
  refine sort_set R (I.ok.hd hc) h2 fun s' p out c L' k g o hp hg hout pm pw => ?_
  have few : L'.length < 2000 := by rw [pm.length_eq]; exact R.few
  have hlen : (L'.map fun q => V.ref q.1).length ≤ sizeLine := by rw [List.length_map, sizeLine_eq]; omega
  have hn : H p = none := I.hok.fresh hp
  have hv : Vals (L'.map fun q => V.ref q.1) out.toList := by rw [hout]; exact vals_of_refs L'
  have J : L2.Inv X pins σ (upd H p (.lst (L'.map fun q => V.ref q.1))) { s with heap := s'.heap, gens := s'.gens, drawn := s'.drawn, toks := s'.toks } :=
    I.call (ch := []) (Un.laid k hp hn) (I.hok.laid k hp ⟨hlen, out.toList, c, hv, hg⟩) (by rw [g]; exact I.bare) (fun _ z => nomatch z)
  have e : s' = { s with heap := s'.heap, gens := s'.gens, drawn := s'.drawn, toks := s'.toks } := by
    cases s'; cases s; cases o; rfl
  rw [e]
  exact ⟨.ref p, _, J, rfl, q L' p pm ((pm.map (·.2)).nodup_iff.mpr R.one) pw hn⟩
end
/-- the rows of a sorted set of pairs -/
theorem sorted_rows {ks L L' : List (Addr × List Int)} {ps : List PI2} (e2 : ks.map (·.2) = ps.map (fun p => [p.1, p.2])) (sub : ∀ p ∈ L, p ∈ ks) (all : ∀ p ∈ ks, p.2 ∈ L.map (·.2)) (pm : L'.Perm L) (nd : (L'.map (·.2)).Nodup)
    (pw : L'.Pairwise (fun q r => SrtO.lexB (fwKey r.2) (fwKey q.2) = false)) : L'.map (·.2) = (sortU ps).map (fun p => [p.1, p.2]) := by
  have two : ∀ p ∈ ks, ∃ z ∈ ps, p.2 = [z.1, z.2] := fun p hp => by
    have : p.2 ∈ ps.map (fun p => [p.1, p.2]) := by rw [← e2]; exact List.mem_map.mpr ⟨p, hp, rfl⟩
    obtain ⟨q, hq, e⟩ := List.mem_map.mp this
    exact ⟨q, hq, e.symm⟩
  have inks : ∀ q ∈ L', q ∈ ks := fun q hq => sub q (pm.mem_iff.mp hq)
  have f : ∀ q ∈ L', q.2 = [(fwKey q.2).1, (fwKey q.2).2] := fun q hq => by
    obtain ⟨z, _, e⟩ := two q (inks q hq)
    rw [e]
    rfl
  have g1 : L'.map (·.2) = (L'.map fun q => fwKey q.2).map (fun p => [p.1, p.2]) := by
    rw [List.map_map]
    exact List.map_congr_left fun q hq => f q hq
  rw [g1]
  congr 1
  refine srt_uniq (List.pairwise_map.mpr (List.Pairwise.imp_of_mem (fun {q r} hq hr hle => ?_) (pw.and (List.pairwise_map.mp nd)))) sortU_srt fun z => ?_
  · obtain ⟨h3, h4⟩ := hle
    have h5 := SrtO.lexB_no.mp h3
    have h6 : fwKey q.2 ≠ fwKey r.2 := fun e => h4 (by rw [f q hq, f r hr, e])
    by_cases h7 : plt (fwKey q.2) (fwKey r.2)
    · exact h7
    · exact absurd (plt_eq h7 h5) h6
  · rw [sortU_mem, List.mem_map]
    constructor
    · rintro ⟨q, hq, rfl⟩
      obtain ⟨z, hz, e⟩ := two q (inks q hq)
      rw [e]
      exact hz
    · intro hz
      have : [z.1, z.2] ∈ ks.map (·.2) := by rw [e2]; exact List.mem_map.mpr ⟨z, hz, rfl⟩
      obtain ⟨q, hq, e⟩ := List.mem_map.mp this
      obtain ⟨q', hq', e'⟩ := List.mem_map.mp (all q hq)
      refine ⟨q', pm.mem_iff.mpr hq', ?_⟩
      rw [e', e]
      rfl
section
variable {X : Cx} {W : Wd} {S : Sg} {k : Nat} {g : En} {e : Expr} {ps : List PI2} {pos p1 p2 pos2 : Pos}
/-- sorted(set(xs)) of up to some thousand pairs -/
theorem n_sortsetG (C : Cc X W S k) (he : Fw.XE X S g e (.lst (ps.map pairD))) (Gs : Ng X "sorted") (ms : X.mg "sorted" = none) (Gt : Ng X "set") (mt : X.mg "set" = none) (hl : ps.length < 2000)
    (h1 : starEach [e] X.env = (false, eval e X.env) :: starEach [] X.env := by rfl) (h2 : starEach [.Call (.Name "set" p2) [e] [] pos2] X.env = (false, eval (.Call (.Name "set" p2) [e] [] pos2) X.env) :: starEach [] X.env := by rfl) :
    XN X S g (.Call (.Name "sorted" p1) [.Call (.Name "set" p2) [e] [] pos2] [] pos) ((sortU ps).map pairD) :=
  peI (pe_callB (cr_sortG C.calm) Gs.gl ms PyProof.Rows.Boot.«sorted» (pa_cons (pe_callTy (cr_setG C.calm C.hu) Gt.gl mt PyProof.Rows.Boot.«set» (pa_cons he pa_nil h1) (by decide) Gt.dbg h1 rfl) pa_nil h2) (by decide) Gs.dbg h2 rfl) fun σ H Q ⟨B, M, st0, kk⟩ => ⟨B, M, st0, fun v H1 e1 r => by
    obtain ⟨l, vs, rfl, hq, rr⟩ := lst_of r
    obtain ⟨ks, rfl, e2, e3⟩ := reps_pairs rr
    have kl : ks.length < 2000 := by
      have := congrArg List.length e2
      rw [List.length_map, List.length_map] at this
      omega
    refine ⟨l, ks, rfl, hid_l (by rw [C.kk]; exact hq), fun p hp => hid_t (by rw [C.kk]; exact e3 p hp), kl, fun a L ha hsub hall => ?_⟩
    have s1 : Same H1 (upd H1 a (SetGO X.prog X.w a L)) := same_upd ha
    have two : ∀ p ∈ ks, p.2.length = 2 := fun p hp => by
      have : p.2 ∈ ps.map (fun p => [p.1, p.2]) := by rw [← e2]; exact List.mem_map.mpr ⟨p, hp, rfl⟩
      obtain ⟨q, _, e⟩ := List.mem_map.mp this
      rw [← e]; rfl
    refine ⟨a, L, rfl, upd_same, fun p hp => Evl.ex_t s1 (hid_t (by rw [C.kk]; exact e3 p (hsub p hp))), fun p hp => two p (hsub p hp), fun L' p pm nd pw hp => ?_⟩
    have key := sorted_rows e2 hsub hall pm nd pw
    have s2 := s1.trans (same_upd (o := .lst (L'.map fun q => V.ref q.1)) hp)
    refine kk p _ _ ((e1.trans s1).free hp) (e1.trans s2) upd_same (new_list hp ?_)
    exact pairs_reps key fun q hq => Evl.ex_t (hid_same s1) (e3 q (hsub q (pm.mem_iff.mp hq)))⟩
end
end Bg

set_option Elab.async false
set_option linter.all false
set_option maxRecDepth 100000
set_option maxHeartbeats 4000000
namespace Bg
open PySem PySem.Spec PyProof.Rows L2 Fw
section
variable {X : Cx}
/-- D.add(x) over the layer -/
theorem add_inv {pins : List (Addr × Obj)} {σ : L2.St} {H : Hp} {s : Shared} {E : Value → Shared → Prop} {D x : Addr} {L : List (Addr × List Int)} {k : List Int} {Q : Value → Shared → Prop} (hu : X.A.units + 64 < cLine) (I : L2.Inv X pins σ H s)
    (hD : H D = some (SetGO X.prog X.w D L)) (hx : SqT X.K H x (k.map V.int)) (hL : ∀ p ∈ L, SqT X.K H p.1 (p.2.map V.int)) (few : L.length + 1 < 2000)
    (h : ∀ s' L', (k ∈ L.map (·.2) → L' = L) → (k ∉ L.map (·.2) → L'.Perm ((x, k) :: L)) → L2.Inv X pins σ (upd H D (SetGO X.prog X.w D L')) s' → Q .none s') : wpAny (model X.prog X.w) X.A (call (.builtin "set.add") [.ref D, .ref x]) Q E s := by
  have R0 : SetG0 X.prog X.w s.heap D L := (I.hok D _ hD).1
  obtain ⟨es, ep, t, R⟩ := R0.full fun p hp => I.isT (hL p hp)
  refine call_add R (I.isT hx) (by omega) few fun h' tk L' es' ep' t' sb R' c1 c2 _ => ?_
  have he : ∃ u, h'.get? D = some u := by
    obtain ⟨o, ho, _⟩ := R'.ob
    exact ⟨o, ho⟩
  exact h _ L' c1 c2 (I.write (e := D) (t' := tk) (by rw [hD]; trivial) (.inl rfl) (fun b u hb hu => (sb.2 b hb).trans hu) he (setGO_ok R'.g0))
/-- what a set comprehension of tuples asks for: T the state of its loop, D its set -/
def tSg (K : PySem.W.Frag) (P : Program) (w : World) (wi : TI) (g : TG) (tt : TT) (te : TE) (vs : List Nat) : TE := fun σ H Q => wi σ H fun J H1 => ∀ D, H1 D = none → ∃ T : Nat → Nat → Hp → Prop, (∃ m, T 0 m (upd H1 D (SetGO P w D []))) ∧ ∀ i m G, T i m G →
  (J.stop i G ∧ Q (.ref D) G) ∨ (J.go i G ∧ ∃ Y : Hp → Prop, (∀ G', Y G' → ∃ m2, m2 < m ∧ T (i + 1) m2 G') ∧ ∀ x G1, J.yld i G x G1 → g x (L2.wipe σ vs) G1 fun σ2 G2 => L2.wipe σ2 vs = L2.wipe σ vs ∧ tt σ2 G2 fun b G3 => if b = true then te σ2 G3 fun y G4 =>
    ∃ (a : Addr) (k : List Int) (L : List (Addr × List Int)), y = .ref a ∧ G4 D = some (SetGO P w D L) ∧ SqT K G4 a (k.map V.int) ∧ (∀ p ∈ L, SqT K G4 p.1 (p.2.map V.int)) ∧ L.length + 1 < 2000 ∧
      ∀ L', (k ∈ L.map (·.2) → L' = L) → (k ∉ L.map (·.2) → L'.Perm ((a, k) :: L)) → Y (upd G4 D (SetGO P w D L')) else Y G3)
section
variable {pins : List (Addr × Obj)} {s : Shared} {σ : L2.St} {H : Hp} {Q : VK} {elt tg iter : Expr} {ifs : List Expr} {scope : Scope} {own : List (PySem.Str × Nat)} {pos pos' : Pos} {wi : TI} {g : TG} {tt : TT} {te : TE} {Qf : Value → Shared → Prop}
/-- {elt for tg in iter}, elt a tuple of numbers -/
theorem sg_core (calm : X.calm = true) (hu : X.A.units + 64 < cLine) (nd : X.N.Nodup) (I : L2.Inv X pins σ H s) (hi : PI X tg iter wi) (ok : BlkOk X.N X.env.scope scope own)
    (hg : ∀ t G C cl fp, PG (X.blk t G scope (compEnvC scope cl C X.env) fp) tg g) (ht : ∀ t G C cl fp, PTs (X.blk t G scope (compEnvC scope cl C X.env) fp) ifs tt) (he : ∀ t G C cl fp, PE (X.blk t G scope (compEnvC scope cl C X.env) fp) elt te)
    (hs : ∀ x, foldedSetIterable iter X.env x = pure x) (h : tSg X.K X.prog X.w wi g tt te (own.map (·.2)) σ H Q) (out : ∀ D C t m G, L2.Inv X pins σ G t → Q (.ref D) G → t.heap.Ns C m → FpOk X pins G C → compPost (model X.prog X.w) X.A X.xe none Qf (.ref D) C (.ok .next) t) :
    wpAny (model X.prog X.w) X.A (comprehension (.SetComp elt [⟨tg, iter, ifs, 0⟩] scope pos) scope X.env pos' (newSet (.type "set")) false (eval iter X.env) none) Qf X.xe s := by
  have free : ∀ y ∈ scope.names, y.2 = .free → ∃ c, X.env.cells.lookup y.1 = some c := fun y hy e => (ok.free y hy e).elim (fun z => I.ok.has _ (.inl z)) fun z => I.ok.has _ (.inr z)
  refine wpAny_comprehension_free (use := none) rfl hs (closure_ok free) ok.kind (fun y hy e => by rw [ok.uniq y hy, e]) (thn (hi.run pins s σ H _ I h) fun xv s1 hx => thn hx fun itv s2 h2 => ?_)
  obtain ⟨it, fp, tn, J, G2, rfl, J2, TT', z2, f2, q⟩ := h2
  refine PpSet.newSet_ok (newEnv_comp ?_)
  -- the new set at D
  generalize eD : s2.heap.objs.size = D
  obtain ⟨T, ⟨m0, w0⟩, turn⟩ := q D (J2.hok.fresh (Nat.le_of_eq eD))
  generalize es3 : ({ s2 with heap := s2.heap.push { cls := .type "set", dict := none, data := .set #[] 0 (.fresh 0 0 (!X.w.params.followText "set-order")) } } : Shared) = s3
  have e3 : s3.heap = s2.heap.push { cls := .type "set", dict := none, data := .set #[] 0 (.fresh 0 0 (!X.w.params.followText "set-order")) } := by rw [← es3]
  have push3 : ∀ b o, s2.heap.get? b = some o → s3.heap.get? b = some o := fun b o e => by rw [e3]; exact Heap.get?_push_of_some _ e
  have J3 : L2.Inv X pins σ (upd G2 D (SetGO X.prog X.w D [])) s3 := by
    rw [← es3]
    refine J2.laid (t' := s2.toks) (fun b o e => Heap.get?_push_of_some _ e) (Nat.le_of_eq eD) (setGO_ok (setG_new ?_).g0)
    rw [← eD]
    exact Heap.get?_push_size _ rfl
  have old : ∀ b ∈ fp, b < s2.heap.objs.size := fun b hb => by
    obtain ⟨o, e, _⟩ := TT'.obj _ _ z2 b hb
    exact Heap.lt_size e
  have f3 : ∀ b ∈ fp, FpOk X pins (upd G2 D (SetGO X.prog X.w D [])) b ∧ b < s3.heap.objs.size := fun b hb => by
    have lt := old b hb
    refine ⟨⟨by rw [upd_ne (by rw [← eD]; exact Nat.ne_of_lt lt)]; exact (f2 b hb).1, (f2 b hb).2⟩, ?_⟩
    rw [e3, Heap.size_push]
    exact Nat.lt_succ_of_lt lt
  have z3 : tn 0 s3.heap := TT'.keep _ _ _ z2 fun b _ o e => push3 b o e
  have J4 := block_start J3 ok nd f3
  generalize eG : upd G2 D (SetGO X.prog X.w D []) = G3 at J3 J4 w0 f3
  generalize ecl : cellsFrom (s3.heap.objs.size + 1) scope.names (cloFrom X.env.cells scope.names []) = cl at J4 ⊢
  have pg := hg s3 G3 s3.heap.objs.size cl fp
  have pt := ht s3 G3 s3.heap.objs.size cl fp
  have pe := he s3 G3 s3.heap.objs.size cl fp
  show codeAny _ _ (.compStart (.SetComp elt [⟨tg, iter, ifs, 0⟩] scope pos) 0 (.ref it) (.ref D) (compEnvC scope cl s3.heap.objs.size X.env)) (compPost (model X.prog X.w) X.A X.xe none Qf (.ref D) s3.heap.objs.size) { s3 with heap := pushCells (s3.heap.push { cls := .type "dict", data := .dict #[] }) scope.names }
  generalize ece : compEnvC scope cl s3.heap.objs.size X.env = ce at J4 pg pt pe ⊢
  have loc : ce.locals = s3.heap.objs.size := by rw [← ece]; rfl
  generalize es4 : ({ s3 with heap := pushCells (s3.heap.push { cls := .type "dict", data := .dict #[] }) scope.names } : Shared) = s4 at J4 ⊢
  have z4 : tn 0 s4.heap := TT'.keep _ _ _ z3 fun b _ o e => by rw [← es4]; exact pushCells_keeps _ _ _ _ (Heap.get?_push_of_some _ e)
  have fpk : ∀ {σ' : L2.St} {G : Hp} {t : Shared}, L2.Inv (X.blk s3 G3 scope ce fp) [] σ' G t → (∀ b ∈ fp, G b = none) → ∀ b ∈ fp, FpOk (X.blk s3 G3 scope ce fp) [] G b := fun K n b hb =>
    ⟨n b hb, (K.ok.exf b hb).1, K.ok.exfs b hb, .inl hb, (K.ok.exf b hb).2, fun p hp => absurd (show p ∈ ([] : List (Addr × Obj)) ++ [] from hp) (by simp)⟩
  have loop : codeAny (model X.prog X.w) X.A (.compLoop (.SetComp elt [⟨tg, iter, ifs, 0⟩] scope pos) 0 (.ref it) (.ref D) ce) (compPost (model X.prog X.w) X.A X.xe none Qf (.ref D) s3.heap.objs.size) s4 := by
    refine PpSet.compLoopS_any (fun m t => ∃ i G, L2.Inv (X.blk s3 G3 scope ce fp) [] (L2.wipe σ (own.map (·.2))) G t ∧ tn i t.heap ∧ (∀ b ∈ fp, G b = none) ∧ T i m G) ?_ m0 ⟨0, G3, J4, z4, fun b hb => (f3 b hb).1.1, w0⟩
    rintro m s5 ⟨i, G5, K5, z5, n5, w5⟩
    rcases turn i m G5 w5 with ⟨stop, fin⟩ | ⟨go, Y, hY, step⟩
    · refine thnF (TT'.done (X.blk s3 G3 scope ce fp) rfl rfl rfl calm i [] s5 _ G5 (fun _ _ => False) K5 (fpk K5 n5) z5 stop) fun r s6 ⟨hr, K6⟩ => ?_
      subst hr
      have K7 : L2.Inv X pins σ G5 s6 := J3.call' (ch := fp) K6.os K6.base K6.hok K6.bare fun b hb => ⟨(f3 b hb).1.2.2.2.1, (f3 b hb).1.2.1, (f3 b hb).1.2.2.2.2.1, (f3 b hb).1.2.2.2.2.2⟩
      have nC : G5 s3.heap.objs.size = none := loc ▸ (show G5 ce.locals = none from K6.free)
      obtain ⟨m', hm', _⟩ := K6.loc
      exact out D s3.heap.objs.size s6 m' G5 K7 fin (loc ▸ (show s6.heap.Ns ce.locals m' from hm')) (J3.fpOk (Nat.le_refl _) nC)
    · refine thnF (TT'.item (X.blk s3 G3 scope ce fp) rfl rfl rfl calm i [] s5 _ G5 (fun _ _ => False) K5 (fpk K5 n5) z5 go) fun r s6 ⟨u, hr, h6⟩ => ?_
      subst hr
      refine thnF h6 fun _ s7 ⟨x, G7, K7, r7, y7, z7, n7⟩ => ?_
      have obs := TT'.obj _ _ z7
      refine thnF (pg.run _ s7 _ G7 x u _ (K7.pinned (fpk K7 n7) obs) r7 (step x G7 y7)) fun _ s8 ⟨σ8, G8, K8, wp8, q8⟩ => ?_
      refine thnF (pt.run _ s8 σ8 G8 _ K8 q8) fun b s9 ⟨G9, K9, q9⟩ => ?_
      have next : ∀ {t : Shared} {G : Hp}, L2.Inv (X.blk s3 G3 scope ce fp) ([] ++ pinsAt fp s7.heap) σ8 G t → Y G → ∃ m', m' < m ∧ ∃ i G, L2.Inv (X.blk s3 G3 scope ce fp) [] (L2.wipe σ (own.map (·.2))) G t ∧ tn i t.heap ∧ (∀ b ∈ fp, G b = none) ∧ T i m' G := fun {t G} K y => by
        obtain ⟨m', lt, w'⟩ := hY G y
        have kept : ∀ b ∈ fp, ∀ o, s7.heap.get? b = some o → t.heap.get? b = some o ∧ G b = none := fun b hb o e => ⟨(K.pin (b, o) (List.mem_append_right _ (List.mem_append_right _ (mem_pinsAt hb e)))).1, (K.pin (b, o) (List.mem_append_right _ (List.mem_append_right _ (mem_pinsAt hb e)))).2.1⟩
        refine ⟨m', lt, i + 1, G, (K.unpinned (pins := [])).weak (by rw [← wp8, L2.wipe_length]) (fun j v e => (L2.wipe_some (wp8 ▸ e)).1), TT'.keep _ _ _ z7 fun b hb o e => (kept b hb o e).1, fun b hb => ?_, w'⟩
        obtain ⟨o, e, _⟩ := obs b hb
        exact (kept b hb o e).2
      cases b with
      | false =>
        simp only [Bool.false_eq_true, if_false] at q9 ⊢
        exact next K9 q9
      | true =>
        simp only [if_true] at q9 ⊢
        refine thnF (pe.run _ s9 σ8 G9 _ K9 q9) fun z s10 ⟨yv, G10, K10, r10, a, k, L, ey, hD10, hx, hL, few, add⟩ => ?_
        subst ey
        cases (show z = Value.ref a from r10)
        exact add_inv (X := X.blk s3 G3 scope ce fp) hu K10 hD10 hx hL few fun s11 L' c1 c2 K11 => next K11 (add L' c1 c2)
  exact PpSet.codeAny_compStart_set loop (TT'.self X.A 0 _ _ _ z4 loop)
theorem pe_sg (calm : X.calm = true) (hu : X.A.units + 64 < cLine) (nd : X.N.Nodup) (hi : PI X tg iter wi) (ok : BlkOk X.N X.env.scope scope own)
    (hg : ∀ t G C cl fp, PG (X.blk t G scope (compEnvC scope cl C X.env) fp) tg g) (ht : ∀ t G C cl fp, PTs (X.blk t G scope (compEnvC scope cl C X.env) fp) ifs tt) (he : ∀ t G C cl fp, PE (X.blk t G scope (compEnvC scope cl C X.env) fp) elt te)
    (hs : ∀ x, foldedSetIterable iter X.env x = pure x) : PE X (.SetComp elt [⟨tg, iter, ifs, 0⟩] scope pos) (tSg X.K X.prog X.w wi g tt te (own.map (·.2))) := ⟨fun pins s σ H Q I h => by
  rw [PpSet.eval_SetComp]
  refine sg_core calm hu nd I hi ok hg ht he hs h fun D C t m G J q hn f => ⟨m, hn, fun h'' sb => ?_⟩
  obtain ⟨f0, f1, f2, f3, f4, f5⟩ := f
  exact ⟨.ref D, G, J.turned (t' := t.toks) (fun b o hb e => (sb.2 b hb).trans e) f0 f1 f3 f4 f5, rfl, q⟩⟩
end
end
end Bg

set_option Elab.async false
set_option linter.all false
set_option maxRecDepth 100000
set_option maxHeartbeats 4000000
namespace Bg
open PySem PySem.Spec PyProof.Rows L2 Fw
/-- a hidden thing of another kind is written -/
theorem upHidE {S : Sg} {B : Bs} {M : List Addr} {g : En} {t : L2.St} {H : Hp} {D : Addr} {q0 : Heap → Prop} {o' : HO} (h : Stt S B M g t H) (hD : D ∈ M) (h0 : B.H0 D = none) (hl : H D = some (.ext q0)) (no : ∀ (i : Nat) (s : Sl) (a : Addr), g[i]? = some s → s.mine = true → t[i]? = some (some (.ref a)) → a ≠ D) : Stt S B M g t (upd H D o') := by
  have other : ∀ {a o}, H a = some o → (∀ q, o ≠ .ext q) → a ≠ D := fun {a o} e k z => by
    rw [z, hl] at e
    exact k _ (Option.some.inj e).symm
  refine ⟨fun a u q => by rw [upd_ne (ne_of_none q h0)]; exact h.same _ _ q, h.sub, h.new, fun a ha => ?_, fun j u hj => ?_, by rw [hid_upd hD]; exact h.gh, h.apart⟩
  · by_cases q : a = D
    · rw [q, upd_same]
      exact fun z => nomatch z
    · rw [upd_ne q]
      exact h.trk a ha
  · obtain ⟨w, hw, rr⟩ := h.sl j u hj
    have far : ∀ a, u.mine = true → w = some (.ref a) → a ≠ D := fun a m e => no j u a hj m (by rw [hw, e])
    refine ⟨w, hw, ?_⟩
    cases u with
    | no => exact True.intro
    | v d =>
      obtain ⟨v, e1, r1⟩ := rr
      exact ⟨v, e1, by rw [hid_upd hD]; exact r1⟩
    | own ds' =>
      obtain ⟨l', vs', e1, m1, m2, z0, q1, q2⟩ := rr
      exact ⟨l', vs', e1, m1, m2, z0, by rw [upd_ne (far l' rfl e1)]; exact q1, by rw [hid_upd hD]; exact q2⟩
    | ob a dx c fs =>
      obtain ⟨e1, m1, z0, ws, q1, q2⟩ := rr
      exact ⟨e1, m1, z0, ws, by rw [upd_ne (far a rfl e1)]; exact q1, by rw [hid_upd hD]; exact q2⟩
    | pi a dx vs =>
      obtain ⟨e1, m1, m2, z0, z1, ne, hs, hd⟩ := rr
      have nd : dx ≠ D := hd.elim (fun e => other e fun q z => nomatch z) fun e => other e fun q z => nomatch z
      refine ⟨e1, m1, m2, z0, z1, ne, ?_, by rw [upd_ne nd]; exact hd⟩
      have na : a ≠ D := far a rfl e1
      rcases hs with ⟨s1, s2⟩ | ⟨s1, s2⟩
      · exact .inl ⟨by rw [upd_ne na]; exact s1, s2⟩
      · exact .inr ⟨by rw [upd_ne na]; exact s1, by rw [upd_ne nd]; exact s2⟩
    | exc a dd c fs =>
      obtain ⟨e1, x⟩ := rr
      refine ⟨e1, fun hq => ?_⟩
      obtain ⟨ws, hd, r1⟩ := x hq
      exact ⟨ws, by rw [upd_ne (other hd fun q z => nomatch z)]; exact hd, by rw [hid_upd hD]; exact r1⟩
abbrev keysOf (L : List (Addr × List Int)) : List (List Int) := L.map (·.2)
abbrev slotsOf (own : List (Str × Nat)) : List Nat := own.map (·.2)
theorem rep_pair {S : Sg} {H : Hp} {v : V} {p : PI2} (r : Rep S H v (Fw.pairD p)) : ∃ a, v = .ref a ∧ SqT S.K H a ([p.1, p.2].map V.int) := by
  unfold Fw.pairD at r
  cases r with
  | @tup a ws ds hq rr =>
    obtain ⟨x, y, rfl, q1, q2⟩ := rr.two
    cases q1
    cases q2
    exact ⟨a, rfl, hq⟩
/-- the run of a set comprehension of pairs -/
theorem sg_run {S : Sg} {P : Program} {w : World} {g : En} {own : List (Str × Nat)} {n : Nat} {it : Nat → D} (f : Nat → PI2) (g2 : Nat → En) (hz : n < 2000) {σ : L2.St} {H : Hp} {Q : VK} {B : Bs} {M : List Addr} (st : Stt S B M g σ H)
    (kk : ∀ D L G, H D = none → Same H G → G D = some (SetGO P w D L) → (∀ p ∈ L, SqT S.K (hid (D :: M) G) p.1 (p.2.map V.int)) → (∀ k, k ∈ keysOf L ↔ ∃ i, i < n ∧ k = [(f i).1, (f i).2]) → Q (.ref D) G) :
    tSg S.K P w (fun t H R => ∃ B M, Stt S B M g t H ∧ ∀ J Gh H', Same H H' → Walks S J Gh n it → Gh (hid M H') → R J H') (tgB S g (slotsOf own) n it g2) (ttB S n (fun _ => true) g2) (teB S n (fun _ => true) (fun i => Fw.pairD (f i)) g2) (slotsOf own) σ H Q := by
  refine ⟨B, M, st, fun J Gh H1 e1 wk hG D hD => ?_⟩
  have s0 : Same H1 (upd H1 D (SetGO P w D [])) := same_upd hD
  have stw : Stt S B M (wipeG g (slotsOf own)) (L2.wipe σ (slotsOf own)) H1 := (st.mono e1).wipe _
  have hG' : Gh (hid (D :: M) (upd H1 D (SetGO P w D []))) := by
    rw [hid_upd List.mem_cons_self]
    exact wk.mono _ _ (hid_new hD) hG
  have far : ∀ (i : Nat) (s : Sl) (a : Addr), (wipeG g (slotsOf own))[i]? = some s → s.mine = true → (L2.wipe σ (slotsOf own))[i]? = some (some (.ref a)) → a ≠ D := fun i s a h1 h2 h3 z => by
    obtain ⟨o, ho, rr⟩ := stw.sl i s h1
    obtain ⟨a', ea, hm⟩ := rr.addr h2
    rw [h3, ea] at ho
    cases ho
    exact stw.nm hD (z ▸ hm)
  have b0 : B.H0 D = none := st.same.free (e1.free hD)
  refine ⟨fun i m G => m = n - i ∧ i ≤ n ∧ ∃ L, G D = some (SetGO P w D L) ∧ (∀ p ∈ L, SqT S.K (hid (D :: M) G) p.1 (p.2.map V.int)) ∧ (∀ k, k ∈ keysOf L ↔ ∃ j, j < i ∧ k = [(f j).1, (f j).2]) ∧ L.length ≤ i ∧ Same H1 G ∧ Stt S (B.more Gh wk.mono) (D :: M) (wipeG g (slotsOf own)) (L2.wipe σ (slotsOf own)) G,
    ⟨n, by simp, Nat.zero_le _, [], upd_same, fun p hp => (nomatch hp), fun k => ⟨fun z => (nomatch z), fun ⟨j, hj, _⟩ => absurd hj (Nat.not_lt_zero _)⟩, Nat.zero_le _, s0, (stw.keep hD s0 upd_same).more wk.mono hG'⟩, ?_⟩
  rintro i m G ⟨rfl, hin, L, hL, tL, mem, len, sG, stt⟩
  by_cases lt : i < n
  · refine .inr ⟨wk.go (D :: M) i G stt.gh.2 lt, fun G' => ∃ L, G' D = some (SetGO P w D L) ∧ (∀ p ∈ L, SqT S.K (hid (D :: M) G') p.1 (p.2.map V.int)) ∧ (∀ k, k ∈ keysOf L ↔ ∃ j, j < i + 1 ∧ k = [(f j).1, (f j).2]) ∧ L.length ≤ i + 1 ∧ Same H1 G' ∧ Stt S (B.more Gh wk.mono) (D :: M) (wipeG g (slotsOf own)) (L2.wipe σ (slotsOf own)) G',
      fun G' q => ⟨n - (i + 1), by omega, rfl, lt, q⟩, fun x G1 hy => ?_⟩
    obtain ⟨e3, r⟩ := wk.yld (D :: M) i G x G1 stt.trk stt.gh.2 lt hy
    refine ⟨i, lt, _, D :: M, stt.mono e3, r, fun t' st' hw => ⟨hw.trans (wipe_idem _ _), i, lt, _, D :: M, st', fun G3 e4 => ?_⟩⟩
    change teB S n (fun _ => true) (fun i => Fw.pairD (f i)) g2 t' G3 _
    refine ⟨i, lt, rfl, _, D :: M, st'.mono e4, fun y G5 e5 ry => ?_⟩
    have e35 := e3.trans (e4.trans e5)
    obtain ⟨a, rfl, hq⟩ := rep_pair ry
    have hD5 : G5 D = some (SetGO P w D L) := e35 _ _ hL
    have tL5 : ∀ p ∈ L, SqT S.K (hid (D :: M) G5) p.1 (p.2.map V.int) := fun p hp => Evl.ex_t (hid_same e35) (tL p hp)
    refine ⟨a, _, L, rfl, hD5, hid_t hq, fun p hp => hid_t (tL5 p hp), by omega, fun L' c1 c2 => ?_⟩
    have grow : (∀ k, k ∈ keysOf L' ↔ k ∈ keysOf L ∨ k = [(f i).1, (f i).2]) ∧ L'.length ≤ i + 1 ∧ ∀ p ∈ L', p ∈ L ∨ p = (a, [(f i).1, (f i).2]) := by
      by_cases c : [(f i).1, (f i).2] ∈ keysOf L
      · rw [c1 c]
        exact ⟨fun k => ⟨.inl, fun z => z.elim id fun z => z ▸ c⟩, by omega, fun p hp => .inl hp⟩
      · have pm := c2 c
        refine ⟨fun k => ?_, by rw [pm.length_eq, List.length_cons]; omega, fun p hp => ?_⟩
        · rw [show k ∈ keysOf L' ↔ k ∈ keysOf ((a, [(f i).1, (f i).2]) :: L) from (pm.map (·.2)).mem_iff, show keysOf ((a, [(f i).1, (f i).2]) :: L) = [(f i).1, (f i).2] :: keysOf L from rfl, List.mem_cons]
          exact Or.comm
        · rcases List.mem_cons.mp (pm.mem_iff.mp hp) with z | z
          · exact .inr z
          · exact .inl z
    obtain ⟨g1, g3, g4⟩ := grow
    refine ⟨L', upd_same, fun p hp => ?_, fun k => ?_, g3, fun b u q => ?_, upHidE (stt.mono e35) List.mem_cons_self b0 hD5 far⟩
    · rw [hid_upd List.mem_cons_self]
      rcases g4 p hp with z | z
      · exact tL5 p z
      · rw [z]
        exact hq
    · rw [g1, mem]
      constructor
      · rintro (⟨j, hj, e⟩ | e)
        · exact ⟨j, by omega, e⟩
        · exact ⟨i, by omega, e⟩
      · rintro ⟨j, hj, e⟩
        rcases Nat.lt_succ_iff_lt_or_eq.mp hj with z | z
        · exact .inl ⟨j, z, e⟩
        · exact .inr (z ▸ e)
    · rw [upd_ne (ne_of_none q hD)]
      exact e35 _ _ (sG _ _ q)
  · obtain rfl : i = n := by omega
    exact .inl ⟨wk.stop (D :: M) i G stt.gh.2 (Nat.le_refl _), kk D L G (e1.free hD) (e1.trans sG) hL tL mem⟩
section
variable {X : Cx} {W : Wd} {S : Sg} {k : Nat} {g : En} {pos pos2 p1 : Pos} {elt tg iter : Expr} {scope : Scope} {own : List (Str × Nat)} {n : Nat} {it : Nat → D}
/-- sorted({elt for tg in iter}), elt a pair -/
theorem n_sortsg (C : Cc X W S k) (hi : XI X S g tg iter n it) (ok : BlkOk X.N X.env.scope scope own) (f : Nat → PI2) (g2 : Nat → En) (hz : n < 2000)
    (hb : ∀ X' : Cx, InK X' W S k X.N (relabel scope X.env) → ∀ i < n, XGw X' S (slotsOf own) (wipeG g (slotsOf own)) tg (it i) (g2 i) ∧ Fw.XE X' S (g2 i) elt (Fw.pairD (f i))) (Gs : Ng X "sorted") (ms : X.mg "sorted" = none)
    (hs : ∀ x, foldedSetIterable iter X.env x = pure x := by intro _; rfl)
    (h2 : starEach [.SetComp elt [⟨tg, iter, [], 0⟩] scope pos2] X.env = (false, eval (.SetComp elt [⟨tg, iter, [], 0⟩] scope pos2) X.env) :: starEach [] X.env := by rfl) :
    XN X S g (.Call (.Name "sorted" p1) [.SetComp elt [⟨tg, iter, [], 0⟩] scope pos2] [] pos) ((sortU ((List.range n).map f)).map Fw.pairD) := by
  have ink : ∀ (s : Shared) (H : Hp) (c : Addr) (cl : List (Str × Addr)) (fp : List Addr), InK (X.blk s H scope (compEnvC scope cl c X.env) fp) W S k X.N (relabel scope X.env) := fun s H c cl fp => ⟨⟨⟨C.wd, C.K, PassesOwn.never, C.nd⟩, C.calm, C.room⟩, rfl, rfl⟩
  refine peI (pe_callB (cr_sortG C.calm) Gs.gl ms PyProof.Rows.Boot.«sorted» (pa_cons (pe_sg (g := tgB S g (slotsOf own) n it g2) (tt := ttB S n (fun _ => true) g2) (te := teB S n (fun _ => true) (fun i => Fw.pairD (f i)) g2) C.calm C.hu C.nd hi ok
    (fun s H c cl fp => ⟨fun pins q σ H v u Q I r ⟨i, h, w⟩ => ((hb _ (ink s _ c cl fp) i h).1).run pins q σ H v u Q I r w⟩) (fun s H c cl fp => ⟨fun pins q σ H Q I ⟨i, h, w⟩ => (ts_nil (X := X.blk s _ scope (compEnvC scope cl c X.env) fp) (g := g2 i)).run pins q σ H Q I w⟩)
    (fun s H c cl fp => ⟨fun pins q σ H Q I ⟨i, h, _, w⟩ => ((hb _ (ink s _ c cl fp) i h).2).run pins q σ H Q I w⟩) hs) pa_nil h2) (by decide) Gs.dbg h2 rfl) fun σ H Q ⟨B, M, st0, kk⟩ => ?_
  have kS : X.K = S.K := C.kk
  rw [kS]
  show tSg S.K X.prog X.w (fun t H R => ∃ B M, Stt S B M g t H ∧ ∀ J Gh H', Same H H' → Fw.Walks S J Gh n it → Gh (hid M H') → R J H') (tgB S g (slotsOf own) n it g2) (ttB S n (fun _ => true) g2) (teB S n (fun _ => true) (fun i => Fw.pairD (f i)) g2) (slotsOf own) σ H (fun v H1 => rSortG S.K X.prog X.w [v] H1 Q)
  refine sg_run f g2 hz st0 fun D L G hD e1 hG tL mem => ?_
  refine ⟨D, L, rfl, hG, fun p hp => hid_t (tL p hp), fun p hp => ?_, fun L' p pm nd pw hp => ?_⟩
  · obtain ⟨i, _, e⟩ := (mem p.2).mp (List.mem_map.mpr ⟨p, hp, rfl⟩)
    rw [e]
    rfl
  · have two : ∀ q ∈ L, q.2 = [(fwKey q.2).1, (fwKey q.2).2] := fun q hq => by
      obtain ⟨i, _, e⟩ := (mem q.2).mp (List.mem_map.mpr ⟨q, hq, rfl⟩)
      rw [e]
      rfl
    have e2 : L.map (·.2) = (L.map fun q => fwKey q.2).map fun p => [p.1, p.2] := by
      rw [List.map_map]
      exact List.map_congr_left fun q hq => two q hq
    have key := sorted_rows e2 (fun q hq => hq) (fun q hq => List.mem_map.mpr ⟨q, hq, rfl⟩) pm nd pw
    have same : sortU (L.map fun q => fwKey q.2) = sortU ((List.range n).map f) := srt_uniq sortU_srt sortU_srt fun z => by
      rw [sortU_mem, sortU_mem, List.mem_map, List.mem_map]
      constructor
      · rintro ⟨q, hq, rfl⟩
        obtain ⟨i, hi', e⟩ := (mem q.2).mp (List.mem_map.mpr ⟨q, hq, rfl⟩)
        exact ⟨i, List.mem_range.mpr hi', by rw [e]; rfl⟩
      · rintro ⟨i, hi', rfl⟩
        obtain ⟨q, hq, e⟩ := List.mem_map.mp ((mem _).mpr ⟨i, List.mem_range.mp hi', rfl⟩)
        exact ⟨q, hq, by rw [e]; rfl⟩
    rw [same] at key
    have s2 : Same G (upd G p (.lst (L'.map fun q => V.ref q.1))) := same_upd hp
    refine kk p _ _ (e1.free hp) (e1.trans s2) upd_same (new_list hp ?_)
    exact pairs_reps key fun q hq => Evl.ex_t (hid_sub fun b hb => List.mem_cons_of_mem _ hb) (tL q (pm.mem_iff.mp hq))
end
section
variable {X : Cx} {W : Wd} {S : Sg} {k : Nat} {g : En} {iter elt : Expr} {x x2 : Str} {ix ix2 : Nat} {px px2 pos pos2 p1 tpos : Pos} {scope : Scope}
/-- sorted({elt for x, x2 in iter}) over pairs -/
theorem n_sortsg2 {l : List PI2} {f : PI2 → PI2} {tz : Nat} (C : Cc X W S k) (hl : l.length < 2000) (he : Fw.XE X S g iter (.lst (l.map Fw.pairD))) (ok : BlkOk X.N X.env.scope scope [(x, ix), (x2, ix2)]) (hn : X.N[ix]? = some x) (hv : scope.names.lookup x = some .local) (hn2 : X.N[ix2]? = some x2) (hv2 : scope.names.lookup x2 = some .local)
    (hel : ∀ X' : Cx, InK X' W S k X.N (relabel scope X.env) → ∀ a ∈ l, Fw.XE X' S (((wipeG g [ix, ix2]).set ix (.v (.int a.1))).set ix2 (.v (.int a.2))) elt (Fw.pairD (f a))) (Gs : Ng X "sorted") (ms : X.mg "sorted" = none)
    (hs : ∀ x, foldedSetIterable iter X.env x = pure x := by intro _; rfl)
    (h2 : starEach [.SetComp elt [⟨.Tuple [.Name x px, .Name x2 px2] tz tpos, iter, [], 0⟩] scope pos2] X.env = (false, eval (.SetComp elt [⟨.Tuple [.Name x px, .Name x2 px2] tz tpos, iter, [], 0⟩] scope pos2) X.env) :: starEach [] X.env := by rfl) :
    XN X S g (.Call (.Name "sorted" p1) [.SetComp elt [⟨.Tuple [.Name x px, .Name x2 px2] tz tpos, iter, [], 0⟩] scope pos2] [] pos) ((sortU (l.map f)).map Fw.pairD) := by
  have e : l.map f = (List.range (l.map Fw.pairD).length).map fun i => f (l.getD i (0, 0)) := by
    rw [List.length_map]
    refine List.ext_getElem (by simp) fun i h1 h2 => ?_
    rw [List.getElem_map, List.getElem_map, List.getElem_range, List.getD_eq_getElem?_getD, List.getElem?_eq_getElem (by simpa using h1)]
    rfl
  rw [e]
  refine n_sortsg C (i_list C.toKb he) ok (fun i => f (l.getD i (0, 0))) (fun i => ((wipeG g [ix, ix2]).set ix (.v (.int (l.getD i (0, 0)).1))).set ix2 (.v (.int (l.getD i (0, 0)).2))) (by rw [List.length_map]; exact hl) (fun X' bk i hi => ⟨?_, ?_⟩) Gs ms hs h2
  · rw [List.length_map] at hi
    rw [itOf_map (z := (0, 0)) hi]
    exact gw_tup bk.C (gws_cons (gw_name bk.C.toKb (bk.lc ix x hn hv) List.mem_cons_self) (gws_cons (gw_name bk.C.toKb (bk.lc ix2 x2 hn2 hv2) (List.mem_cons_of_mem _ List.mem_cons_self)) gws_nil))
  · rw [List.length_map] at hi
    exact hel X' bk _ (getD_mem hi)
end
end Bg

set_option Elab.async false
set_option linter.all false
set_option maxRecDepth 100000
set_option maxHeartbeats 4000000
namespace Fw
open PySem L2 PyProof.Rows
section
variable {X : Cx} {W : Wd} {S : Sg} {U : WX} {k j : Nat} {g : En} {P : Po} {o e : Expr} {es : List Expr} {d : D} {ds dd : List D} {x y m cn : Str} {i n c : Nat} {pos p apos : Pos} {A : Addr} {R : List D → Out → Prop} {ou : Out}
/-- cls(e, ..), cls a name for the class c -/
theorem q_obc (C : Cc X W S k) (tk : L2N.Takes X U) (F : ObI W S c cn j n dd R) (N : Nm X i x) (hi : g[i]? = some (.exc (S.cO c) 0 0 [])) (ha : XA X S g (e :: es) ds) (hR : R (ds ++ dd) ou) (hO : outOb c ou = true := by rfl) (hn : ds.length = n := by rfl) (hj : j + 1 ≤ k := by decide)
    (ht : eval (.Call (.Name x p) (e :: es) [] pos) X.env = (do callWith pos (← eval (.Name x p) X.env) [] (backTo pos (starEach (e :: es) X.env)) (backToKw pos (keywordEach [] X.env))) := by rfl)
    (he : starEach (e :: es) X.env = (false, eval e X.env) :: starEach es X.env := by rfl) (hpl : (backTo pos (starEach es X.env)).any (·.1) = false := by rfl) : XQ X S U g (.Call (.Name x p) (e :: es) [] pos) ou := by
  obtain ⟨f, fd, ps, mk, F1, hl, dvs, us, hb, hv, hdd⟩ := F.ex
  have gC := F.gC
  obtain ⟨⟨w1, w2, c3, c4⟩, c1, c2⟩ := C
  subst w1
  refine ⟨fun pins s σ H Q I w => ?_⟩
  obtain ⟨B, M, st, kk⟩ := w
  obtain ⟨ov, ho, e0, _⟩ := st.sl i _ hi
  refine PyProof.Rows.Call_ (thn ((pe_var N.n N.vis N.dbg N.cdt).run pins s σ H (fun v H1 => v = .ref (S.cO c) ∧ H1 = H) I ⟨.ref (S.cO c), by rw [ho, e0], rfl, rfl⟩) fun u s0 ⟨v, H0, I0, rx, e3, e4⟩ => ?_) ht
  subst e3
  subst e4
  obtain rfl : u = Value.ref (S.cO c) := rx
  refine PySem.W.callWith_K (h₀ := X.base) I.ok.mod.kin mk.kp (wpAny_mono (ha.run pos pins s0 σ H0 (fun vs H1 => Same H0 H1 ∧ Reps S (hid M H1) vs ds) I0 ⟨B, M, st, fun vs H1 e1 r => ⟨e1, r⟩⟩) (fun ws s1 w => ?_) fun _ _ z => z) he hpl
  obtain ⟨vs, H1, I1, r1, e1, rr⟩ := w
  have r3 := rr.append (hdd (hid M H1))
  have st1 := st.mono e1
  refine ⟨I1.kIn, made_run mk F1 (c2.mono hj) hb hv tk I1 r1 fun a dx ha hdx ne => ?_⟩
  have old : ∀ {b u}, H1 b = some u → b ≠ a ∧ b ≠ dx := fun {b u} hb => ⟨ne_of_none hb ha, ne_of_none hb hdx⟩
  have sm : Same (hid M H1) (hid (a :: M) (upd (upd H1 dx (.own a)) a (.ins (S.cO c) dx []))) := fun b u hb => by
    obtain ⟨q1, q2⟩ := hid_some hb
    obtain ⟨n1, n2⟩ := old q2
    refine hid_of (fun z => (List.mem_cons.mp z).elim n1 q1) (by rw [upd_ne n1, upd_ne n2]; exact q2)
  have hs : Same H1 (hid [a] (upd (upd H1 dx (.own a)) a (.ins (S.cO c) dx []))) := fun b u hb => by
    obtain ⟨n1, n2⟩ := old hb
    refine hid_of (fun z => n1 (List.mem_singleton.mp z)) (by rw [upd_ne n1, upd_ne n2]; exact hb)
  refine ⟨a, dx, vs ++ dvs, M, ds ++ dd, ou, rfl, by rw [List.length_append, rr.length, (hdd H1).length, hl]; omega, ne, st1.nm ha, upd_same, fun b hb => ?_, r3.mono sm, hR, ?_⟩
  · have q := st1.trk b hb
    rw [upd_ne (fun z => q (by rw [z]; exact ha)), upd_ne (fun z => q (by rw [z]; exact hdx))]
    exact q
  · cases ou with
    | new d => cases hO
    | ok d =>
      cases d with
      | obj c' fs =>
        have hc : c' = c := by simpa [outOb] using hO
        subst hc
        refine ⟨rfl, fun ws H2 e2 hl2 rf => ⟨rfl, kk _ H2 (e1.trans (hs.trans e2)) (.obj (hid_of (st1.nm ha) hl2) (rf.mono (hid_sub fun b hb => List.mem_cons_of_mem _ hb)))⟩⟩
      | _ => cases hO
    | err c' fs =>
      intro dd' us2 H2 e2 xd
      exact kk dd' us2 H2 (e1.trans (hs.trans e2)) (fun h => let ⟨p, q, _, r⟩ := xd h; ⟨e1.free (hs.free p), q, r.ints hO⟩)
end
end Fw

set_option Elab.async false
set_option linter.all false
set_option maxRecDepth 100000
set_option maxHeartbeats 1000000
namespace Fw
open PySem L2 PyProof.Rows
/-- the class's own x[i] -/
structure SubO (W : Wd) (S : Sg) (A : Addr) (k : Nat) (R : List D → Out → Prop) : Prop where
  ex : ∃ q, FnM W S k q 2 [] R ∧ PySem.W.findIn W.K (.ref A) "__getitem__" = some (some (.ref q)) ∧ PySem.W.isFn W.K (.ref q) = true ∧ PySem.W.fnIn W.K q = true
section
variable {X : Cx} {W : Wd} {S : Sg} {U : WX} {k j : Nat} {g : En} {e o : Expr} {d da : D} {c : Nat} {fs : List (Str × D)} {R : List D → Out → Prop} {pos : Pos}
/-- o[e] -/
theorem e_subO (C : Cc X W S k) (F : SubO W S (S.cO c) j R) (ho : Fw.XE X S g o (.obj c fs)) (he : Fw.XE X S g e da) (hR : R [.obj c fs, da] (.ok d)) (hj : j + 1 ≤ k := by decide)
    (hsl : ∀ v u, subscripted e true v u = runValue (.builtin "lifetime.subscript" ⟨[v, u], []⟩) := by intro _ _; rfl) : Fw.XE X S g (.Subscript o e pos) d := by
  obtain ⟨q, F1, hs, hf, hi⟩ := F.ex
  have F' := F1.fnr
  have kw := C.toKb.kw
  obtain ⟨⟨w1, w2, c3, c4⟩, c1, c2⟩ := C
  subst w1
  refine ⟨fun pins s σ H Q I ⟨B, M, st, kk⟩ => ?_⟩
  refine Subscript_ (binT (R := fun x y H2 => Same H H2 ∧ Rep S (hid M H2) x (.obj c fs) ∧ Rep S (hid M H2) y da) ho he I ⟨B, M, st, fun x H1 e1 r1 => ⟨B, M, st.mono e1, fun y H2 e2 r2 => ⟨e1.trans e2, r1.mono (hid_same e2), r2⟩⟩⟩ fun v u s2 x y H2 I2 rx ry ⟨e1, r1, r2⟩ => ?_)
  obtain ⟨a, ox, od, rfl, J⟩ := inst_at (A := S.cO c) I2 r1 rfl
  cases rx
  obtain ⟨m, hF⟩ := I2.fr
  refine PySem.W.sub_K hF I2.ok.mod.kin J hs hi hf ?_ (hsl _ _)
  have e0 : Env0 X.prog X.w X.K X.mg X.base X.A.in1 X.stack s2 H2 := by
    have e := I2.env0
    exact ⟨e.frames, e.mod, e.bs, e.bsz, e.funs, e.frf, e.hok, e.bare⟩
  refine wpAny_call (codeAny_mono (F' X.A.in1 X.stack s2 H2 [.ref a, u] [.ref a, y] Q (WE (fun _ _ _ _ => False) σ) (c2.mono hj).in1 e0 (.cons rfl (.cons ry .nil)) ⟨M, [.obj c fs, da], .ok d, rfl, (st.mono e1).trk, .cons r1 (.cons r2 .nil), by rw [List.append_nil]; exact hR, fun w H3 e3 r3 => kk w H3 (e1.trans e3) r3⟩) fun r s' w => ?_)
  cases r with
  | error er => exact L2N.passAt takes0 σ pins H2 s2 er s' I2 w
  | ok fl =>
    cases fl with
    | ret w' => exact I2.after w
    | next => exact w.elim
    | brk => exact w.elim
    | cont => exact w.elim
end
end Fw

set_option Elab.async false
set_option linter.all false
set_option maxRecDepth 100000
set_option maxHeartbeats 1000000
namespace Fw
open PySem L2
/-! ### own.insert(i, e); xs.index(i) of whole numbers -/
section
variable {X : Cx} {W : Wd} {S : Sg} {U : WX} {k : Nat} {g : En} {P : Po} {e f o : Expr} {d : D} {ds : List D} {x : Str} {i : Nat} {j : Int} {pos p apos cpos : Pos}
theorem s_insOwn (C : Kb X W S) (N : Nm X i x) (hi : g[i]? = some (.own ds)) (hj : Fw.XE X S g f (.int j)) (he : Fw.XE X S g e d) (hz : ds.length < 100000) (h0 : 0 ≤ j ∧ j < 2 ^ 60) (h : P.nx (g.set i (.own (ds.take j.toNat ++ [d] ++ ds.drop j.toNat))))
    (hline : (apos.endLine == cpos.line) = true := by rfl) (hs1 : starEach [f, e] X.env = (false, eval f X.env) :: starEach [e] X.env := by rfl) (hs2 : starEach [e] X.env = (false, eval e X.env) :: starEach [] X.env := by rfl)
    (hs : swapsWith (.Call (.Attribute (.Name x p) "insert" apos) [f, e] [] cpos) none pos.line X.env = pure false := by rfl) : XS X S U g (.Expr (.Call (.Attribute (.Name x p) "insert" apos) [f, e] [] cpos) pos) P := by
  have ha : XA X S g [f, e] [.int j, d] := a_cons hj (a_cons he a_nil hs2) hs1
  have hfew : ((backTo cpos (starEach [f, e] X.env)).all (fun x => !x.1) && (backToKw cpos (keywordEach [] X.env)).all (fun x => x.1.isSome) && decide ([f, e].length + ([] : List Keyword).length + (if ([] : List Keyword).isEmpty then 0 else 1) < 30)) = true := by
    rw [hs1, hs2]
    rfl
  have hpl : (backTo cpos (starEach [e] X.env)).any (·.1) = false := by
    rw [hs2]
    rfl
  refine psI (ps_expr (pe_bm PySem.F.plainAttrs_list PySem.F.slot_list_insert PySem.F.type_list_insert mt_insert (pe_var N.n N.vis N.dbg N.cdt) ha rfl hfew hline hs1 hpl) hs) fun E σ H ⟨B, M, st, c, _⟩ => ?_
  obtain ⟨l, vs, ht, hm, h0', hl, r⟩ := st.own hi
  refine ⟨.ref l, ht, .inl ⟨rfl, vs, SqL.of hl⟩, B, M, st, fun ws H1 e1 rw => ?_⟩
  obtain ⟨y1, y2, e2, r1, r2⟩ := rw.two
  subst e2
  cases r1
  have hlen : vs.length = ds.length := r.length
  refine ⟨l, vs, j, y2, rfl, rfl, e1 _ _ hl, by rw [hlen]; exact Evl.sz_lt hz, h0.1, by have : (2 : Int) ^ 60 < 2 ^ 63 := by decide +kernel
                                                                                        omega, ?_⟩
  have rr := r.mono (hid_same e1)
  exact c.nx _ _ _ _ h ((st.mono e1).upOwn hi ht hm h0' (e1 _ _ hl) (((rr.take j.toNat).append (.cons r2 .nil)).append (rr.drop j.toNat)))
theorem pds_ints : ∀ ns : List Int, pdsOf (ns.map D.int) = ns.map PyData.int
  | [] => rfl
  | n :: ns => by
    rw [List.map_cons, List.map_cons, pdsOf, pds_ints ns]
    rfl
theorem ints_lay : ∀ zs : List Int, PyData.canLayAll0 (zs.map PyData.int) = true
  | [] => by simp [PyData.canLayAll0]
  | z :: zs => by rw [List.map_cons, PyData.canLayAll0, ints_lay zs]; simp [PyData.canLay0]
theorem ints_depth : ∀ zs : List Int, PyData.depthAll (zs.map PyData.int) ≤ 1
  | [] => by simp [PyData.depthAll]
  | z :: zs => by
    have h1 := ints_depth zs
    simp only [List.map_cons, PyData.depthAll, PyData.depth]
    omega
theorem ints_shaped (zs : List Int) : SeqAt.shaped (.list (zs.map PyData.int)) = true := by
  have h1 := ints_depth zs
  have h2 : PyData.depth (.list (zs.map PyData.int)) ≤ 64 := by
    simp only [PyData.depth]
    omega
  show (PyData.canLay0 (.list (zs.map PyData.int)) && decide (PyData.depth (.list (zs.map PyData.int)) ≤ 64)) = true
  rw [Bool.and_eq_true]
  exact ⟨by simp only [PyData.canLay0]; exact ints_lay zs, decide_eq_true h2⟩
theorem int_eqv (a b : Int) : PyData.eqv (pdOf (.int a)) (pdOf (.int b)) = decide (a = b) := PySem.W.Datum.eqv a b
theorem e_indexI (C : Cc X W S k) {ns : List Int} {q : Int} {j : Nat} (ho : Fw.XE X S g o (.lst (ns.map D.int))) (he : Fw.XE X S g e (.int q)) (hl : ns.length ≤ 1000) (hj : ns[j]? = some q) (hno : ∀ m, m < j → ns[m]? ≠ some q) (hbase : attributeBase o "index" X.env (eval o X.env) = eval o X.env := by rfl)
    (hline : (apos.endLine == cpos.line) = true := by rfl) (hs1 : starEach [e] X.env = (false, eval e X.env) :: starEach [] X.env := by rfl) : Fw.XE X S g (.Call (.Attribute o "index" apos) [e] [] cpos) (.int (j : Nat)) := by
  have hfew : ((backTo cpos (starEach [e] X.env)).all (fun x => !x.1) && (backToKw cpos (keywordEach [] X.env)).all (fun x => x.1.isSome) && decide ([e].length + ([] : List Keyword).length + (if ([] : List Keyword).isEmpty then 0 else 1) < 30)) = true := by
    rw [hs1]
    rfl
  have ha : XA X S g [e] [.int q] := a_cons he a_nil hs1
  refine peI (pe_bm PySem.F.plainAttrs_list PySem.F.slot_list_index PySem.F.type_list_index (mt_indexD (by have := C.room.un; omega)) ho ha hbase hfew hline hs1 rfl) fun σ H Q ⟨B, M, st, kk⟩ => ?_
  refine ⟨B, M, st, fun v H1 e1 r => ?_⟩
  obtain ⟨l, vs, rfl, hq, rs⟩ := lst_of r
  have hq' := hid_l hq
  rw [← C.kk] at hq'
  refine ⟨.inl ⟨rfl, _, hq'⟩, B, M, st.mono e1, fun ws H2 e2 rw2 => ?_⟩
  obtain ⟨y, rfl, ry⟩ := rw2.one
  have d1 := dp_of (r.mono (hid_same e2)) (show flat (.lst (ns.map D.int)) = true by rw [flat]; exact flats_int ns)
  have d1' := dp_mono (hid_le (M := M)) d1
  have d2' := dp_mono (hid_le (M := M)) (dp_of ry (show flat (.int q) = true from rfl))
  rw [← C.kk] at d1' d2'
  have ep : pdOf (.lst (ns.map D.int)) = .list (ns.map PyData.int) := by rw [pdOf, pds_ints]
  rw [ep] at d1'
  refine ⟨l, y, pdOf (.int q), _, j, pdOf (.int q), rfl, rfl, d1', d2', ints_shaped ns, rfl, ?_, ?_, fun m z' hm hz => ?_, kk _ H2 (e1.trans e2) (.int _)⟩
  · rw [List.getElem?_map, hj]
    rfl
  · exact (int_eqv q q).trans (decide_eq_true rfl)
  · rw [List.getElem?_map] at hz
    cases hr : ns[m]? with
    | none => rw [hr] at hz; cases hz
    | some r =>
      rw [hr] at hz
      cases hz
      refine (int_eqv r q).trans (decide_eq_false fun z => hno m hm (by rw [hr, z]))
end
end Fw

set_option Elab.async false
set_option linter.all false
set_option maxRecDepth 100000
set_option maxHeartbeats 1000000
namespace Fw
open PySem L2
def mx3 (i j l : Int) : Int := if l > (if j > i then j else i) then l else if j > i then j else i
section
variable {X : Cx} {W : Wd} {S : Sg} {k : Nat} {i j l : Int}
theorem nu_max3 : nuMax3 (.int i) (.int j) (.int l) = some (.int (mx3 i j l)) := by
  have e2 : ∀ x y : Int, nuMax2 (.int x) (.int y) = some (.int (if y > x then y else x)) := fun x y => by
    have : nuLt (.int x) (.int y) = some (decide (x < y)) := rfl
    unfold nuMax2
    rw [this]
    by_cases h : x < y
    · rw [decide_eq_true h, if_pos (show y > x from h)]; rfl
    · rw [decide_eq_false h, if_neg (show ¬ y > x from h)]; rfl
  unfold nuMax3
  rw [e2]
  show nuMax2 (.int (if j > i then j else i)) (.int l) = _
  rw [e2]
  rfl
theorem k_max3 (C : Cc X W S k) : CallD X S (.builtin "max") [.int i, .int j, .int l] (.int (mx3 i j l)) := by
  intro pins s σ H xs us Q I r ⟨M, _, q, K⟩
  cases q with
  | cons a b =>
    cases b with
    | cons c d =>
      cases d with
      | cons e f =>
        cases f
        cases a
        cases c
        cases e
        exact call_max3Nu C.calm pins s σ H _ us Q I r ⟨.int i, .int j, .int l, .int _, rfl, nu_max3, K _ H (Same.refl H) (.int _)⟩
end
end Fw

set_option Elab.async false
set_option linter.all false
set_option maxRecDepth 100000
set_option maxHeartbeats 1000000
namespace Fw
open PySem L2 PyProof.Rows
/-! ### a starred target: *x, y = a tuple -/
/-- the i values ahead, a new list of the middle ones, the last ones -/
def gStar (K : PySem.W.Frag) (n i : Nat) (t : TGs) : TG := fun v σ H Q => ∃ a xs, v = .ref a ∧ SqT K H a xs ∧ n ≤ xs.length + 1 ∧ xs.length ≤ 1000 ∧
  ∀ p, H p = none → t (xs.take i ++ [.ref p] ++ (xs.drop i).drop (xs.length + 1 - n)) σ (upd H p (.lst ((xs.drop i).take (xs.length + 1 - n)))) Q
section
variable {X : Cx}
theorem pg_star {es es0 : List Expr} {k : Nat} {t : TGs} {n i : Nat} {pos : Pos} (hc : X.calm = true) (h : PGs X es0 t) (he : (assignEach es X.env).map (·.2) = (assignEach es0 X.env).map (·.2))
    (hn : (assignEach es X.env).length = n) (hst : (assignEach es X.env).findIdx? (·.1) = some i) (hin : i < n) : PG X (.Tuple es k pos) (gStar X.K n i t) := by
  refine ⟨fun pins s σ H v u Q I r hw => ?_⟩
  obtain ⟨l, xs, e1, hq, hle, h1000, hw⟩ := hw
  subst e1
  cases r
  obtain ⟨its, rv, hl, hz⟩ := I.tuple hq
  have hlen : its.length = xs.length := rv.length.symm
  rw [assign_Tuple]
  refine wpAny_bind (wpAny_standAt ?_)
  unfold unpack
  rw [hn, hst]
  refine wpAny_bind (wpAny_holding ?_)
  have hh : X.A.handled = none := I.ok.hd hc
  have hlt : l ≠ s.heap.objs.size := by obtain ⟨o, ho, _⟩ := hl; exact Nat.ne_of_lt (Heap.lt_size ho)
  have hsz : its.toArray.size = xs.length := by rw [List.size_toArray, hlen]
  unfold unpackItems
  refine wpAny_bind ?_
  unfold notIterableAtAll
  refine wpAny_bind (wpAny_specialOf hl.typeIs slot_tuple_iter.lookup ?_)
  refine wpAny_pure ?_
  simp only [Bool.false_eq_true, if_false]
  refine wpAny_bind (wpAny_holding (iter_tuple hl ?_))
  refine wpAny_bind (wpAny_holding (draw_tuple hlt i 0 _ _ ⟨_, Heap.get?_push_size _ rfl, rfl, rfl⟩ (hl.push _) (by omega) fun h₁ hit₁ hs₁ => ?_))
  have hl₁ : IsTup h₁ l its.toArray := (hl.push _).extBut hs₁.extBut hlt
  rw [Nat.zero_add] at hit₁
  have hit₁' := hit₁
  obtain ⟨oi, hoi, _⟩ := hit₁'
  have hl₁' := hl₁
  obtain ⟨ol, hol, _⟩ := hl₁'
  rw [List.drop_zero]
  have hfl : (its.toArray.toList.take i).length = i := by rw [List.length_take, Array.length_toList]; omega
  rw [if_neg (show ¬ ((its.toArray.toList.take i).length < i) by rw [hfl]; omega)]
  refine wpAny_bind (wpAny_holding (PySem.W.kun_collect (s := { s with heap := h₁ }) (T := "tuple_iterator") (.inr (.inr (.inr rfl))) (Walks.tuple (A := X.A.in1) hh s.heap.objs.size l hlt its.toArray) (fun j u st => st.1.typeIs) (k := i) (by omega) ⟨hit₁, hl₁⟩ (Heap.lt_size hoi) (Heap.lt_size hol) (fun h₂ tk hk => ?_) (by rw [sizeLine_eq]; omega)))
  have hrl : (its.toArray.toList.drop i).length = its.toArray.size - i := by rw [List.length_drop, Array.length_toList]
  have hmid : (its.toArray.toList.drop i).length - (n - 1 - i) = its.toArray.size + 1 - n := by rw [hrl]; omega
  show wpAny _ _ (if (its.toArray.toList.drop i).length < n - 1 - i then _ else _) _ _ _
  rw [if_neg (by rw [hrl]; omega)]
  show wpAny _ _ (newList ((its.toArray.toList.drop i).take ((its.toArray.toList.drop i).length - (n - 1 - i))) >>= fun d => pure (its.toArray.toList.take i ++ [d] ++ (its.toArray.toList.drop i).drop ((its.toArray.toList.drop i).length - (n - 1 - i)))) _ _ _
  rw [hmid]
  have hke : ∀ b o, s.heap.get? b = some o → h₂.get? b = some o := fun b o e => by
    have hb : b ≠ s.heap.objs.size := Nat.ne_of_lt (Heap.lt_size e)
    exact hk b o hb (hs₁.extBut b o hb (Heap.get?_push_of_some _ e))
  have I1 : Inv X pins σ H { s with heap := h₂, toks := tk } := I.kept (t' := tk) fun b o e => hke b o e
  refine wpAny_bind (wpAny_newList ?_ (by rw [List.length_take, hrl, sizeLine_eq]; omega))
  refine wpAny_pure ?_
  have hf : H h₂.objs.size = none := I1.hok.fresh (Nat.le_refl _)
  have hw' := hw _ hf
  have er : its.toArray.toList = its := rfl
  rw [he, hsz, er]
  have vs : Vals ((xs.drop i).take (xs.length + 1 - n)) ((its.drop i).take (xs.length + 1 - n)) := (rv.drop i).take _
  have I2 : Inv X pins σ (upd H h₂.objs.size (.lst ((xs.drop i).take (xs.length + 1 - n)))) { s with heap := h₂.push { cls := .type "list", data := .seq ((its.drop i).take (xs.length + 1 - n)).toArray }, toks := tk } :=
    I1.laid (t' := tk) (fun b u e => Heap.get?_push_of_some _ e) (Nat.le_refl _) ⟨by rw [List.length_take, List.length_drop, sizeLine_eq]; omega, _, 0, vs, Heap.get?_push_size _ rfl⟩
  exact h.run pins _ σ _ _ _ Q I2 (((rv.take i).append (.cons (show RelV (.ref h₂.objs.size) (.ref h₂.objs.size) from rfl) .nil)).append ((rv.drop i).drop _)) hw'
end
/-! ### the same over data; the heap may grow while the target is bound -/
def XGN (X : Cx) (S : Sg) (g : En) (tg : Expr) (d : D) (g' : En) : Prop := PG X tg fun v t H Q => ∃ B M, Stt S B M g t H ∧ Rep S (hid M H) v d ∧ ∀ t' H', Same H H' → Stt S B M g' t' H' → Q t' H'
section
variable {X : Cx} {W : Wd} {S : Sg} {U : WX} {k n : Nat} {g g' : En} {tg iter : Expr} {body : List Stmt} {P : Po} {it : Nat → D} {d : D} {ds0 : List D} {pos : Pos}
theorem g_star {es es0 : List Expr} {z : Nat} (C : Cc X W S k) (h : XGs X S g es0 [.lst ds0, d] g') (hl : ds0.length ≤ 900) (he : (assignEach es X.env).map (·.2) = (assignEach es0 X.env).map (·.2) := by rfl)
    (hn : (assignEach es X.env).length = 2 := by rfl) (hst : (assignEach es X.env).findIdx? (·.1) = some 0 := by rfl) : XGN X S g (.Tuple es z pos) (.tup (ds0 ++ [d])) g' :=
  pgI (pg_star C.calm h he hn hst (by decide)) fun v σ H Q ⟨B, M, st, r, kk⟩ => by
    cases r with
    | @tup a xs _ hq rr =>
      have hlen : xs.length = ds0.length + 1 := by rw [rr.length, List.length_append]; rfl
      refine ⟨_, _, rfl, hid_t (by rw [C.kk]; exact hq), by omega, by omega, fun p hp => ?_⟩
      have r2 := rr.dropLast
      rw [List.dropLast_concat] at r2
      have hy : xs.drop (xs.length - 1) = [xs[xs.length - 1]'(by omega)] := by
        rw [List.drop_eq_getElem_cons (by omega)]
        rw [List.drop_eq_nil_of_le (by omega)]
      have e1 : (xs.drop 0).take (xs.length + 1 - 2) = xs.dropLast := by rw [List.drop_zero, List.dropLast_eq_take]; rfl
      have e2 : (xs.drop 0).drop (xs.length + 1 - 2) = [xs[xs.length - 1]'(by omega)] := by rw [List.drop_zero, show xs.length + 1 - 2 = xs.length - 1 by omega, hy]
      rw [e1, e2]
      have rl : Reps S (hid M H) (xs.drop (xs.length - 1)) [d] := by
        have := rr.drop (xs.length - 1)
        have e : (ds0 ++ [d]).drop (xs.length - 1) = [d] := by rw [show xs.length - 1 = ds0.length by omega, List.drop_left]
        rw [e] at this
        exact this
      rw [hy] at rl
      have e3 := same_upd (o := .lst xs.dropLast) hp
      have hself : (upd H p (.lst xs.dropLast)) p = some (.lst xs.dropLast) := upd_same
      cases rl with
      | cons ry _ =>
        refine ⟨B, M, st.mono e3, .cons (.lst (SqL.of (hid_of (st.nm hp) hself)) (r2.mono (hid_same e3))) (.cons (ry.mono (hid_same e3)) .nil), fun t' st' => kk t' _ e3 st'⟩
/-- for, with such a target -/
theorem s_forN (C : Cc X W S k) (hi : XI X S g tg iter n it) (I : Nat → En → Prop) (h0 : I 0 g)
    (hs : ∀ i g1, i < n → I i g1 → ∃ g2, XGN X S g1 tg (it i) g2 ∧ XB X S U g2 body { P with nx := I (i + 1), ct := I (i + 1), bk := P.nx }) (hd : ∀ g1, I n g1 → P.nx g1)
    (hf : ∀ x, foldedSetIterable iter X.env x = pure x := by intro _; rfl) : XS X S U g (.For tg iter body [] pos) P := by
  have hg : PG X tg (fun v t H Q => ∃ g1 d g2, XGN X S g1 tg d g2 ∧ ∃ B M, Stt S B M g1 t H ∧ Rep S (hid M H) v d ∧ ∀ t' H', Same H H' → Stt S B M g2 t' H' → Q t' H') := ⟨fun pins s σ H v u Q I r ⟨g1, d, g2, hx, w⟩ => hx.run pins s σ H v u Q I r w⟩
  have hb : PSs X body (fun E t H => ∃ g' P', XB X S U g' body P' ∧ ∃ B M, Stt S B M g' t H ∧ Ct S B U P' E ∧ Cx' S B U P') := ⟨fun pins s σ H E I ⟨g', P', hx, w⟩ => hx.run pins s σ H E I w⟩
  refine psI (ps_for C.own C.calm hi hg hb hf) fun E σ H ⟨B, M, st, c, x⟩ => ⟨B, M, st, fun J Gh H' e1 wk hG => ?_⟩
  refine ⟨fun i m t H => m = n - i ∧ i ≤ n ∧ ∃ g1 M1, I i g1 ∧ Stt S (B.more Gh wk.mono) M1 g1 t H, ⟨n, by simp, Nat.zero_le _, g, M, h0, (st.mono e1).more wk.mono hG⟩, ?_⟩
  rintro i m t H1 ⟨rfl, hin, g1, M1, hI, st1⟩
  by_cases hlt : i < n
  · refine .inr ⟨wk.go M1 i H1 st1.gh.2 hlt, fun t2 H2 => ∃ g2 M2, I (i + 1) g2 ∧ Stt S (B.more Gh wk.mono) M2 g2 t2 H2, fun t2 H2 w => ⟨n - (i + 1), by omega, rfl, hlt, w⟩, fun y H2 hy => ?_⟩
    obtain ⟨e2, r⟩ := wk.yld M1 i H1 y H2 st1.trk st1.gh.2 hlt hy
    obtain ⟨g2, hx, hB⟩ := hs i g1 hlt hI
    refine ⟨g1, _, g2, hx, _, M1, st1.mono e2, r, fun t' H' _ st' => ⟨g2, _, hB, _, M1, st', ⟨fun g3 M3 t3 H3 z q => ⟨g3, M3, z, q⟩, c.rt, fun g3 M3 t3 H3 z q => c.nx _ _ _ _ z q.less, fun g3 M3 t3 H3 z q => ⟨g3, M3, z, q⟩, c.rn⟩, fun c' fs dx ws g3 M3 t3 H3 z q => x c' fs dx ws g3 M3 t3 H3 z q.less⟩⟩
  · have e : i = n := by omega
    subst e
    exact .inl ⟨wk.stop M1 i H1 st1.gh.2 (Nat.le_refl _), c.nx _ _ _ _ (hd g1 hI) st1.less⟩
end
end Fw

set_option Elab.async false
set_option linter.all false
set_option maxRecDepth 100000
set_option maxHeartbeats 4000000
namespace Fw
open PySem L2

/-! ### list comprehensions with two fors, without tests -/
theorem wipeG_mine {g : En} {j : Nat} {s : Sl} (hm : s.mine = true) : ∀ {vs : List Nat}, (wipeG g vs)[j]? = some s → g[j]? = some s ∧ j ∉ vs
  | [], h => ⟨h, List.not_mem_nil⟩
  | v :: vs, h => by
    have h' : ((wipeG g vs).set v .no)[j]? = some s := h
    by_cases e : v = j
    · subst e
      rw [List.getElem?_set] at h'
      split at h'
      · split at h'
        · cases h'
          cases hm
        · cases h'
      · rename_i z
        exact absurd rfl z
    · rw [List.getElem?_set_ne e] at h'
      obtain ⟨a, b⟩ := wipeG_mine hm h'
      exact ⟨a, fun z => by
        rcases List.mem_cons.mp z with z | z
        · exact e z.symm
        · exact b z⟩
/-- what such a comprehension gathers -/
def res2 (dd : Nat → Nat → D) (m : Nat) : Nat → List D
  | 0 => []
  | i + 1 => res2 dd m i ++ (List.range m).map (dd i)
theorem res2_len {dd : Nat → Nat → D} {m : Nat} : ∀ n, (res2 dd m n).length = n * m
  | 0 => by simp [res2]
  | n + 1 => by
    unfold res2
    rw [List.length_append, res2_len n, List.length_map, List.length_range, Nat.succ_mul]
abbrev wi1B (S : Sg) (n m : Nat) (it1 : Nat → D) (g2 : Nat → En) : TI := fun t H R => ∃ i, i < n ∧ ∃ B M, Stt S B M (g2 i) t H ∧ ∀ J Gh H', Same H H' → Walks S J Gh m it1 → Gh (hid M H') → R J H'
abbrev tg1B (S : Sg) (vs1 : List Nat) (n m : Nat) (it1 : Nat → D) (g2 : Nat → En) (g3 : Nat → Nat → En) : TG := fun v t H Q => ∃ i j, i < n ∧ j < m ∧ ∃ B M, Stt S B M (wipeG (g2 i) vs1) t H ∧ Rep S (hid M H) v (it1 j) ∧ ∀ t', Stt S B M (g3 i j) t' H → L2.wipe t' vs1 = L2.wipe t vs1 → Q t' H
abbrev tt1B (S : Sg) (n m : Nat) (g3 : Nat → Nat → En) : TT := fun t H Q => ∃ i j, i < n ∧ j < m ∧ ∃ B M, Stt S B M (g3 i j) t H ∧ ∀ H', Same H H' → Q true H'
abbrev te1B (S : Sg) (n m : Nat) (dd : Nat → Nat → D) (g3 : Nat → Nat → En) : TE := fun t H Q => ∃ i j, i < n ∧ j < m ∧ ∃ B M, Stt S B M (g3 i j) t H ∧ ∀ v H', Same H H' → Rep S (hid M H') v (dd i j) → Q v H'
theorem lc2_run {S : Sg} {g : En} {vs vs1 : List Nat} {n m : Nat} {it it1 : Nat → D} (dd : Nat → Nat → D) (g2 : Nat → En) (g3 : Nat → Nat → En) (hz : n * m ≤ 100000)
    (hm2 : ∀ i < n, ∀ (j : Nat) (s : Sl), (g2 i)[j]? = some s → s.mine = true → (wipeG g vs)[j]? = some s) {σ : L2.St} {H : Hp} {Q : VK} {B : Bs} {M : List Addr} (st : Stt S B M g σ H)
    (kk : ∀ p vs H', H p = none → Same H H' → H' p = some (.lst vs) → Reps S (hid (p :: M) H') vs (res2 dd m n) → Q (.ref p) H') :
    tLc2 (fun t H R => ∃ B M, Stt S B M g t H ∧ ∀ J Gh H', Same H H' → Walks S J Gh n it → Gh (hid M H') → R J H') (tgB S g vs n it g2) (ttB S n (fun _ => true) g2) (wi1B S n m it1 g2) (tg1B S vs1 n m it1 g2 g3) (tt1B S n m g3) (te1B S n m dd g3) vs vs1 σ H Q := by
  refine ⟨B, M, st, fun J Gh H1 e1 wk hG D hD => ?_⟩
  have st2 : Stt S B M (wipeG g vs) (L2.wipe σ vs) H1 := (st.mono e1).wipe _
  have s1 : Same H1 (upd H1 D (.lst [])) := same_upd hD
  have st3 := st2.keep hD s1 upd_same
  have hG' : Gh (hid (D :: M) (upd H1 D (.lst []))) := by
    rw [hid_upd List.mem_cons_self]
    exact wk.mono _ _ (hid_new hD) hG
  have noD : ∀ (i : Nat) (s : Sl) (a : Addr), (wipeG g vs)[i]? = some s → s.mine = true → (L2.wipe σ vs)[i]? = some (some (.ref a)) → a ≠ D := fun i s a h1 h2 h3 z => by
    obtain ⟨o, ho, rr⟩ := st2.sl i s h1
    obtain ⟨a', ea, hm⟩ := rr.addr h2
    rw [h3, ea] at ho
    cases ho
    exact st2.nm hD (z ▸ hm)
  have h0D : B.H0 D = none := st.same.free (e1.free hD)
  refine ⟨fun i mm H2 => mm = n - i ∧ i ≤ n ∧ ∃ acc, H2 D = some (.lst acc) ∧ Reps S (hid (D :: M) H2) acc (res2 dd m i) ∧ Same H1 H2 ∧ Stt S (B.more Gh wk.mono) (D :: M) (wipeG g vs) (L2.wipe σ vs) H2,
    ⟨n, by simp, Nat.zero_le _, [], upd_same, .nil, s1, st3.more wk.mono hG'⟩, ?_⟩
  rintro i mm H2 ⟨rfl, hin, acc, hacc, racc, s12, stt⟩
  by_cases hlt : i < n
  · refine .inr ⟨wk.go (D :: M) i H2 stt.gh.2 hlt, fun H' => ∃ acc, H' D = some (.lst acc) ∧ Reps S (hid (D :: M) H') acc (res2 dd m (i + 1)) ∧ Same H1 H' ∧ Stt S (B.more Gh wk.mono) (D :: M) (wipeG g vs) (L2.wipe σ vs) H',
      fun H' p => ⟨n - (i + 1), by omega, rfl, hlt, p⟩, fun x H3 hy => ?_⟩
    obtain ⟨e3, r⟩ := wk.yld (D :: M) i H2 x H3 stt.trk stt.gh.2 hlt hy
    refine ⟨i, hlt, _, D :: M, stt.mono e3, r, fun t' st' hw => ⟨hw.trans (wipe_idem _ _), i, hlt, _, D :: M, st', fun H4 e4 => ?_⟩⟩
    dsimp only
    rw [if_pos rfl]
    refine ⟨i, hlt, _, D :: M, st'.mono e4, fun J1 Gh1 H5 e5 wk1 hG1 => ?_⟩
    have sti := (st'.mono (e4.trans e5)).more wk1.mono hG1
    have sto := stt.mono (e3.trans (e4.trans e5))
    have noD1 : ∀ (j : Nat) (s : Sl) (a : Addr), (wipeG (g2 i) vs1)[j]? = some s → s.mine = true → (L2.wipe t' vs1)[j]? = some (some (.ref a)) → a ≠ D := fun j s a h1 h2 h3 => by
      have k1 := (wipeG_mine h2 h1).1
      have k2 := hm2 i hlt j s k1 h2
      have k3 := (wipeG_mine h2 k2).2
      have k4 := (L2.wipe_some h3).1
      refine noD j s a k2 h2 ?_
      have k5 : (L2.wipe t' vs)[j]? = t'[j]? := L2.wipe_out k3
      rw [hw, wipe_idem] at k5
      rw [k5]
      exact k4
    refine ⟨fun j k H6 => k = m - j ∧ j ≤ m ∧ ∃ acc, H6 D = some (.lst acc) ∧ Reps S (hid (D :: M) H6) acc (res2 dd m i ++ (List.range j).map (dd i)) ∧ Same H1 H6 ∧ Stt S (B.more Gh wk.mono) (D :: M) (wipeG g vs) (L2.wipe σ vs) H6 ∧ Stt S ((B.more Gh wk.mono).more Gh1 wk1.mono) (D :: M) (wipeG (g2 i) vs1) (L2.wipe t' vs1) H6,
      ⟨m, by simp, Nat.zero_le _, acc, (e4.trans e5) _ _ (e3 _ _ hacc), by
        have := racc.mono (hid_same (M := D :: M) (e3.trans (e4.trans e5)))
        simpa using this, s12.trans (e3.trans (e4.trans e5)), sto, sti.wipe vs1⟩, ?_⟩
    rintro j k H6 ⟨rfl, hjm, acc1, hacc1, racc1, s16, sto6, sti6⟩
    by_cases hlt1 : j < m
    · refine .inr ⟨wk1.go (D :: M) j H6 sti6.gh.2 hlt1, fun H' => ∃ acc, H' D = some (.lst acc) ∧ Reps S (hid (D :: M) H') acc (res2 dd m i ++ (List.range (j + 1)).map (dd i)) ∧ Same H1 H' ∧ Stt S (B.more Gh wk.mono) (D :: M) (wipeG g vs) (L2.wipe σ vs) H' ∧ Stt S ((B.more Gh wk.mono).more Gh1 wk1.mono) (D :: M) (wipeG (g2 i) vs1) (L2.wipe t' vs1) H',
        fun H' p => ⟨m - (j + 1), by omega, rfl, hlt1, p⟩, fun x1 H7 hy1 => ?_⟩
      obtain ⟨e7, r1⟩ := wk1.yld (D :: M) j H6 x1 H7 sti6.trk sti6.gh.2 hlt1 hy1
      refine ⟨i, j, hlt, hlt1, _, D :: M, sti6.mono e7, r1, fun t2 st2' hw2 => ⟨hw2.trans (wipe_idem _ _), i, j, hlt, hlt1, _, D :: M, st2', fun H8 e8 => ?_⟩⟩
      dsimp only
      rw [if_pos rfl]
      refine ⟨i, j, hlt, hlt1, _, D :: M, st2'.mono e8, fun y H9 e9 ry => ?_⟩
      have e79 := e7.trans (e8.trans e9)
      refine ⟨acc1, e79 _ _ hacc1, ?_, acc1 ++ [y], upd_same, ?_, fun a u q => ?_, (sto6.mono e79).upHid List.mem_cons_self h0D (e79 _ _ hacc1) noD, (sti6.mono e79).upHid List.mem_cons_self h0D (e79 _ _ hacc1) noD1⟩
      · rw [racc1.length, List.length_append, res2_len, List.length_map, List.length_range]
        have h1 : (i + 1) * m ≤ n * m := Nat.mul_le_mul_right m hlt
        rw [Nat.succ_mul] at h1
        exact Evl.sz_lt (by omega)
      · rw [hid_upd List.mem_cons_self, List.range_succ, List.map_append, ← List.append_assoc]
        exact (racc1.mono (hid_same e79)).append (.cons ry .nil)
      · rw [upd_ne (ne_of_none q hD)]
        exact e79 _ _ (s16 _ _ q)
    · have e : j = m := by omega
      subst e
      exact .inl ⟨wk1.stop (D :: M) j H6 sti6.gh.2 (Nat.le_refl _), acc1, hacc1, racc1, s16, sto6⟩
  · have e : i = n := by omega
    subst e
    exact .inl ⟨wk.stop (D :: M) i H2 stt.gh.2 (Nat.le_refl _), kk D acc H2 (e1.free hD) (e1.trans s12) hacc racc⟩
section
variable {X : Cx} {W : Wd} {S : Sg} {k : Nat} {g : En} {pos : Pos}
theorem n_lc2 {elt tg iter tg1 iter1 : Expr} {scope : Scope} {own : List (Str × Nat)} {vs1 : List Nat} {n m : Nat} {it it1 : Nat → D} (C : Cc X W S k) (hi : XI X S g tg iter n it) (ok : BlkOk X.N X.env.scope scope own) (hv : ∀ i ∈ vs1, i ∈ own.map (·.2)) (dd : Nat → Nat → D) (g2 : Nat → En) (g3 : Nat → Nat → En) (hz : n * m ≤ 100000)
    (hm2 : ∀ i < n, ∀ (j : Nat) (s : Sl), (g2 i)[j]? = some s → s.mine = true → (wipeG g (own.map (·.2)))[j]? = some s)
    (hb : ∀ X' : Cx, InK X' W S k X.N (relabel scope X.env) → ∀ i < n, XGw X' S (own.map (·.2)) (wipeG g (own.map (·.2))) tg (it i) (g2 i) ∧ XI X' S (g2 i) tg1 iter1 m it1 ∧ ∀ j < m, XGw X' S vs1 (wipeG (g2 i) vs1) tg1 (it1 j) (g3 i j) ∧ Fw.XE X' S (g3 i j) elt (dd i j))
    (hs : ∀ x, foldedSetIterable iter X.env x = pure x := by intro _; rfl) (hs1 : ∀ env x, foldedSetIterable iter1 env x = pure x := by intro _ _; rfl) : XN X S g (.ListComp elt [⟨tg, iter, [], 0⟩, ⟨tg1, iter1, [], 0⟩] scope pos) (res2 dd m n) := by
  have ink : ∀ (s : Shared) (H : Hp) (c : Addr) (cl : List (Str × Addr)) (fp : List Addr), InK (X.blk s H scope (compEnvC scope cl c X.env) fp) W S k X.N (relabel scope X.env) := fun s H c cl fp =>
    ⟨⟨⟨C.wd, C.K, PassesOwn.never, C.nd⟩, C.calm, C.room⟩, rfl, rfl⟩
  refine peI (pe_lc2 (g := tgB S g (own.map (·.2)) n it g2) (tt := ttB S n (fun _ => true) g2) (wi1 := wi1B S n m it1 g2) (g1 := tg1B S vs1 n m it1 g2 g3) (tt1 := tt1B S n m g3) (te := te1B S n m dd g3) C.calm C.nd hi ok hv ?_ ?_ ?_ ?_ ?_ ?_ hs hs1) fun σ H Q ⟨B, M, st, kk⟩ => lc2_run dd g2 g3 hz hm2 st kk
  · exact fun s H c cl fp => ⟨fun pins q σ H v u Q I r ⟨i, h, w⟩ => ((hb _ (ink s _ c cl fp) i h).1).run pins q σ H v u Q I r w⟩
  · exact fun s H c cl fp => ⟨fun pins q σ H Q I ⟨i, h, B, M, st, w⟩ => (ts_nil (g := g2 i)).run pins q σ H Q I ⟨B, M, st, w⟩⟩
  · exact fun s H c cl fp => ⟨fun pins q σ H R I ⟨i, h, w⟩ => ((hb _ (ink s _ c cl fp) i h).2.1).run pins q σ H R I w⟩
  · exact fun s H c cl fp => ⟨fun pins q σ H v u Q I r ⟨i, j, h, h1, w⟩ => (((hb _ (ink s _ c cl fp) i h).2.2 j h1).1).run pins q σ H v u Q I r w⟩
  · exact fun s H c cl fp => ⟨fun pins q σ H Q I ⟨i, j, h, h1, B, M, st, w⟩ => (ts_nil (g := g3 i j)).run pins q σ H Q I ⟨B, M, st, w⟩⟩
  · exact fun s H c cl fp => ⟨fun pins q σ H Q I ⟨i, j, h, h1, w⟩ => (((hb _ (ink s _ c cl fp) i h).2.2 j h1).2).run pins q σ H Q I w⟩
theorem res2_map {α β : Type} {l1 : List α} {l2 : List β} (z : α) (y : β) (f : α → β → D) : res2 (fun i j => f (l1.getD i z) (l2.getD j y)) l2.length l1.length = l1.flatMap fun a => l2.map (f a) := by
  have inner : ∀ a, (List.range l2.length).map (fun j => f a (l2.getD j y)) = l2.map (f a) := fun a => by
    refine List.ext_getElem (by simp) fun i h1 h2 => ?_
    rw [List.getElem_map, List.getElem_map, List.getElem_range, List.getD_eq_getElem?_getD, List.getElem?_eq_getElem (by simpa using h2)]
    rfl
  have key : ∀ n, n ≤ l1.length → res2 (fun i j => f (l1.getD i z) (l2.getD j y)) l2.length n = (l1.take n).flatMap fun a => l2.map (f a) := fun n => by
    induction n with
    | zero => intro _; rfl
    | succ n ih =>
      intro h
      unfold res2
      rw [ih (by omega), inner, List.take_succ, List.getElem?_eq_getElem (show n < l1.length by omega), List.flatMap_append, List.getD_eq_getElem?_getD, List.getElem?_eq_getElem (show n < l1.length by omega)]
      simp
  rw [key _ (Nat.le_refl _), List.take_length]
/-- [elt for x in l1 for y in l2], both lists of things -/
theorem lc_2for {α β : Type} {l1 : List α} {l2 : List β} {da : α → D} {db : β → D} {f : α → β → D} {x y : Str} {ix iy : Nat} {px py : Pos} {elt iter iter1 : Expr} {scope : Scope} (z : α) (zy : β) (C : Cc X W S k) (hl : l1.length * l2.length ≤ 100000) (he : Fw.XE X S g iter (.lst (l1.map da))) (ok : BlkOk X.N X.env.scope scope [(x, ix), (y, iy)])
    (hn : X.N[ix]? = some x) (hv : scope.names.lookup x = some .local) (hn2 : X.N[iy]? = some y) (hv2 : scope.names.lookup y = some .local) (hne : ix ≠ iy)
    (hin : ∀ X' : Cx, InK X' W S k X.N (relabel scope X.env) → ∀ a ∈ l1, Fw.XE X' S ((wipeG g [ix, iy]).set ix (.v (da a))) iter1 (.lst (l2.map db)))
    (hel : ∀ X' : Cx, InK X' W S k X.N (relabel scope X.env) → ∀ a ∈ l1, ∀ b ∈ l2, Fw.XE X' S ((wipeG ((wipeG g [ix, iy]).set ix (.v (da a))) [iy]).set iy (.v (db b))) elt (f a b))
    (hs : ∀ x, foldedSetIterable iter X.env x = pure x := by intro _; rfl) (hs1 : ∀ env x, foldedSetIterable iter1 env x = pure x := by intro _ _; rfl) : XN X S g (.ListComp elt [⟨.Name x px, iter, [], 0⟩, ⟨.Name y py, iter1, [], 0⟩] scope pos) (l1.flatMap fun a => l2.map (f a)) := by
  have hr := (res2_map (l1 := l1) (l2 := l2) z zy f).symm
  rw [hr]
  have e1 : (l1.map da).length = l1.length := List.length_map ..
  have e2 : (l2.map db).length = l2.length := List.length_map ..
  have hi := i_list (tg := .Name x px) C.toKb he
  rw [e1] at hi
  refine n_lc2 (vs1 := [iy]) (it1 := itOf (l2.map db)) C hi ok (fun i hi' => by rw [List.mem_singleton.mp hi']; simp) (fun i j => f (l1.getD i z) (l2.getD j zy)) (fun i => (wipeG g [ix, iy]).set ix (.v (da (l1.getD i z)))) (fun i j => (wipeG ((wipeG g [ix, iy]).set ix (.v (da (l1.getD i z)))) [iy]).set iy (.v (db (l2.getD j zy)))) hl ?_ ?_ hs hs1
  · intro i hi' j s h1 h2
    by_cases e : ix = j
    · subst e
      rw [List.getElem?_set] at h1
      split at h1
      · split at h1
        · cases h1
          cases h2
        · cases h1
      · rename_i z
        exact absurd rfl z
    · rw [List.getElem?_set_ne e] at h1
      exact h1
  · intro X' bk i hi'
    have hm1 : l1.getD i z ∈ l1 := by rw [List.getD_eq_getElem?_getD, List.getElem?_eq_getElem hi']; exact List.getElem_mem hi'
    refine ⟨?_, ?_, fun j hj => ?_⟩
    · have ei : itOf (l1.map da) i = da (l1.getD i z) := by
        unfold itOf
        rw [List.getD_eq_getElem?_getD, List.getElem?_map, List.getD_eq_getElem?_getD, List.getElem?_eq_getElem hi']
        rfl
      rw [ei]
      exact gw_name bk.C.toKb (bk.lc ix x hn hv) (by simp)
    · have := i_list (tg := .Name y py) bk.C.toKb (hin X' bk _ hm1)
      rw [e2] at this
      exact this
    · have hm2 : l2.getD j zy ∈ l2 := by rw [List.getD_eq_getElem?_getD, List.getElem?_eq_getElem hj]; exact List.getElem_mem hj
      have ej : itOf (l2.map db) j = db (l2.getD j zy) := by
        unfold itOf
        rw [List.getD_eq_getElem?_getD, List.getElem?_map, List.getD_eq_getElem?_getD, List.getElem?_eq_getElem hj]
        rfl
      rw [ej]
      exact ⟨gw_name bk.C.toKb (bk.lc iy y hn2 hv2) (by simp), hel X' bk _ hm1 _ hm2⟩
end
end Fw

set_option Elab.async false
set_option linter.all false
set_option maxRecDepth 100000
set_option maxHeartbeats 4000000
namespace Fw
open PySem L2

/-! ### def f(*v) -/
theorem cxUpN {P : Program} {w : World} : StX.CXUp (L2N.CX P w) := by
  rintro outer s H s2 H2 E e s' un kp ho ⟨a, B, H', cls, d, ea, fl, hok, ub, na, os, ag, he⟩
  refine ⟨a, B, H', cls, d, ea, fl, hok, ⟨fun b o q n hb => ub.keep b o (kp b o q) (un.free b o q n (by simp)) hb, fun b o q hb => ub.slot b o (kp b o q) hb, fun b o q n => ub.free b o (kp b o q) (un.free b o q n (by simp)),
    fun b o q hb => ub.there b o (kp b o q) hb, fun b xs q => ub.tups b xs (un.tups b xs q), fun b o xs q => ub.frzs b o xs (un.frzs b o xs q), fun b ps q => ?_⟩, na, os.trans ho, ag, he⟩
  obtain ⟨m1, e1⟩ := un.tbls b ps q
  obtain ⟨m2, e2⟩ := ub.tbls b _ e1
  exact ⟨m1 ++ m2, by rw [e2, Array.append_assoc]⟩
/-- the promise of a def that takes any number of things -/
def spAny (S : Sg) (R : List D → Out → Prop) : Sp := fun vs H Q E => ∃ M ds o, (∀ a ∈ M, H a ≠ none) ∧ Reps S (hid M H) vs ds ∧ ds.length ≤ 1000 ∧ R ds o ∧ OutK S H M Q E o
structure FnS (W : Wd) (S : Sg) (k : Nat) (x : Str) (R : List D → Out → Prop) : Prop where
  ex : ∃ f, FnR W.P W.w W.K W.mg W.base (L2N.CX W.P W.w) k f (spAny S R) ∧ W.mg x = some (.ref f) ∧ PySem.W.keepIn W.K (.ref f) = true
def RStarOf (R : List D → Out → Prop) (ds : List D) (o : Out) : Prop := ∃ es, ds = [.tup es] ∧ R es o
theorem def_star {W : Wd} {S : Sg} {x qual pv : Str} {st : Stmt} {f : Addr} {fd : FuncData} {N : List Str} {k : Nat} {R : List D → Out → Prop} (F : Fd W.K x qual st [] f fd) (hK : W.K = S.K) (sc : FnScope N [pv] (defScope st))
    (hb : ∀ rest : List Value, bindArgs fd ⟨rest, []⟩ = (newTuple rest >>= fun t => pure [(pv, t)]))
    (body : ∀ (X : Cx) (U : WX) (ds : List D) (o : Out), InB X W S k N (defScope st) U → R ds o → XB X S U (enOf N.length [.tup ds]) (defBody st) (poOf o)) :
    FnR W.P W.w W.K W.mg W.base (L2N.CX W.P W.w) (k + 1) f (spAny S R) := by
  obtain ⟨oc, od, dV, kV, doc, pm, an, cdv, ct, osl, rfl, lk, hcd, _, _⟩ := F.ex
  refine (StX.fn_star (ps := []) (sp := spOf S 1 (RStarOf R)) lk hcd sc cxUpN (fun us rest hl => ?_) (fun A outer s H vs Q E hr h => ?_)).imp fun vs H Q E h => ?_
  · obtain rfl : us = [] := List.eq_nil_of_length_eq_zero hl
    exact hb rest
  · obtain ⟨hl, M, ds, o, tr, r, ⟨es, rfl, hR⟩, ho⟩ := h
    refine ⟨_, body _ (fun cls d _ H => E cls d H) es o ⟨⟨⟨rfl, hK, passes_of rfl, sc.nd⟩, rfl, rfl, fun _ => rfl⟩, ⟨⟨rfl, hK, passes_of rfl, sc.nd⟩, rfl, hr⟩, L2N.takes_of rfl rfl rfl rfl, rfl, rfl⟩ hR, ?_⟩
    refine ⟨⟨H, M, fun _ => True, fun _ _ _ _ => trivial⟩, M, stt_start tr r, ?_, ?_⟩
    · cases o with
      | ok d =>
        refine ⟨fun g M' t H' hz st => ?_, fun v H' d' hz e r' => ?_, fun _ _ _ _ z => z.elim, fun _ _ _ _ z => z.elim, fun _ _ _ z => z.elim⟩
        · have hz' : d = .non := hz
          subst hz'
          exact ho .non H' st.same .non
        · have hz' : d' = d := hz
          subst hz'
          exact ho v H' e r'
      | err c fs => exact ⟨fun _ _ _ _ z => z.elim, fun _ _ _ z => z.elim, fun _ _ _ _ z => z.elim, fun _ _ _ _ z => z.elim, fun _ _ _ z => z.elim⟩
      | new d => exact ⟨fun _ _ _ _ z => z.elim, fun _ _ _ z => z.elim, fun _ _ _ _ z => z.elim, fun _ _ _ _ z => z.elim, fun p H' d' hz e hp nw => by
          have hz' : d' = d := hz
          subst hz'
          exact ho p H' hp e nw⟩
    · intro c fs dx ws g M' t H' hx st xd
      cases o with
      | ok d => exact hx.elim
      | new d => exact hx.elim
      | err c' fs' =>
        obtain ⟨rfl, rfl⟩ := hx
        exact ho dx ws H' st.same (fun h => let ⟨p, q, r⟩ := xd h; ⟨p, q, r.mono st.out⟩)
  · obtain ⟨M, ds, o, tr, r, hl, hR, ho⟩ := h
    refine ⟨[], vs, rfl, rfl, ?_, fun p hp => ⟨rfl, M, [.tup ds], o, fun a ha => ?_, ?_, ⟨ds, rfl, hR⟩, outk_mono (same_upd hp) ho⟩⟩
    · rw [r.length]
      exact Nat.le_of_lt (Evl.sz_lt (by omega))
    · by_cases e : a = p
      · rw [e, upd_same]; exact fun z => nomatch z
      · rw [upd_ne e]; exact tr a ha
    · have np : p ∉ M := fun z => tr p z hp
      refine .cons (.tup (.inl ?_) (r.mono (hid_same (same_upd hp)))) .nil
      exact .inl (hid_of np upd_same)
section
variable {X : Cx} {W : Wd} {S : Sg} {k j : Nat} {g : En} {e : Expr} {es : List Expr} {ds : List D} {d : D} {x : Str} {R : List D → Out → Prop} {pos p : Pos}
theorem e_callS (C : Cc X W S k) (F : FnS W S j x R) (G : Ng X x) (ha : XA X S g (e :: es) ds) (hl : ds.length ≤ 1000) (hR : R ds (.ok d)) (hj : j ≤ k := by decide)
    (he : starEach (e :: es) X.env = (false, eval e X.env) :: starEach es X.env := by rfl) (hpl : (backTo pos (starEach es X.env)).any (·.1) = false := by rfl) : Fw.XE X S g (.Call (.Name x p) (e :: es) [] pos) d := by
  obtain ⟨f, F, hm, hk⟩ := F.ex
  obtain ⟨⟨w1, w2, c3, c4⟩, c1, c2⟩ := C
  subst w1
  have key : PE X (.Call (.Name x p) (e :: es) [] pos) (fun σ H Q => (∃ B M, Stt S B M g σ H ∧ ∀ v H', Same H H' → Rep S (hid M H') v d → Q v H')) := by
    refine ⟨fun pins s σ H Q I ⟨B, M, st, kk⟩ => ?_⟩
    refine wpAny_Call_Name_kw (ld_glob I G.gl hm ?_ G.dbg)
    refine PySem.W.callWith_K (h₀ := X.base) I.ok.mod.kin hk (thn (ha.run pos pins s σ H (fun vs H1 => spAny S R vs H1 Q E0) I ⟨B, M, st, fun vs H1 e1 r => ⟨M, ds, _, (st.mono e1).trk, r, hl, hR, fun v H2 e2 r2 => kk v H2 (e1.trans e2) r2⟩⟩) fun us s1 ⟨vs, H1, I1, r, q⟩ => ⟨I1.kIn, ?_⟩) he hpl
    exact wpAny_call (run_fnR F (c2.mono hj) passN I1 r q)
  exact key
end
end Fw

set_option Elab.async false
set_option linter.all false
set_option maxRecDepth 100000
set_option maxHeartbeats 4000000
namespace GQ
open PySem PySem.SeqAt
open AutoSeq1 (wpAny_loadPart')
open MeetsSeq MeetsSeq2 MeetsSeq3 SeqRoads2
section
variable {prog : Program} {w : World} {A : Around} {R : Result → Shared → Prop}
/-- the two lists at every turn; the i-th two are equal, or are told apart -/
def ListX (prog : Program) (w : World) (A : Around) (E : Value → Shared → Prop) (l b : Addr) (N : Nat) (I : Nat → Shared → Prop) (Fs : Shared → Prop) : Prop :=
  ∀ i s, I i s → ∃ (items items2 : Array Value) (n n2 : Nat) (sl sl2 : Array (Option Value)), s.heap.get? l = some { cls := .type "list", data := .seq items n, slots := sl } ∧ s.heap.get? b = some { cls := .type "list", data := .seq items2 n2, slots := sl2 } ∧ items.size = N ∧ items2.size = N ∧
    ∀ (h1 : i < items.size) (h2 : i < items2.size), wpAny (model prog w) A.in1 (eqBool items[i] items2[i]) (fun r s' => (r = true ∧ I (i + 1) s') ∨ (r = false ∧ I i s' ∧ Fs s')) E s
theorem eq_loopX (l b : Addr) (N : Nat) (I : Nat → Shared → Prop) (Fs : Shared → Prop) (hl : ListX prog w A (fun e s' => R (.error e) s') l b N I Fs)
    (fin : ∀ s, I N s → R (.ok (.ret (.bool true))) s) (finF : ∀ s, Fs s → R (.ok (.ret (.bool false))) s) (k : Nat) :
    ∀ i : Nat, N - i = k → i ≤ N → ∀ s, I i s →
      wpAny (model prog w) A.in1 (Builtin.«list.__eq__.loop» ⟨[.ref l, .ref b, rawInt i, rawInt 2], []⟩) (FinOf prog w A R) (fun e s' => R (.error e) s') s := by
  induction k with
  | zero =>
    intro i hk hi s h
    obtain ⟨items, items2, n, n2, sl, sl2, hl1, hb1, hs1, hs2, _⟩ := hl _ _ h
    have hi' : i = N := by omega
    have hR : R (.ok (.ret (.bool true))) s := fin s (hi' ▸ h)
    obtain ⟨hp, g, d, tk, os⟩ := s
    wp_walk using wpAny_loadPart' hl1, wpAny_loadPart' hb1
    have hi1 : items[((i : Nat) : Int).toNat]? = none := by simp; omega
    have hi2 : items2[((i : Nat) : Int).toNat]? = none := by simp; omega
    rw [hi1, hi2]
    wp_walk using wpAny_loadPart' hl1, wpAny_loadPart' hb1
    show R (.ok (.ret (.bool (items.size == items2.size)))) _
    rw [hs1, hs2]
    simpa using hR
  | succ k ih =>
    intro i hk hi s h
    obtain ⟨items, items2, n, n2, sl, sl2, hl1, hb1, hs1, hs2, turn⟩ := hl _ _ h
    have hlt : i < items.size := by omega
    have hlt2 : i < items2.size := by omega
    have ht := turn hlt hlt2
    obtain ⟨hp, g, d, tk, os⟩ := s
    wp_walk using wpAny_loadPart' hl1, wpAny_loadPart' hb1
    have hi1 : items[((i : Nat) : Int).toNat]? = some items[i] := by simp [hlt]
    have hi2 : items2[((i : Nat) : Int).toNat]? = some items2[i] := by simp [hlt2]
    have hc : ((i : Int) + 1) = ((i + 1 : Nat) : Int) := by omega
    rw [hi1, hi2]
    refine wpAny_bind (wpAny_mono ht (fun r s2 h2 => ?_) fun _ _ x => x)
    rcases h2 with ⟨hr, h2⟩ | ⟨hr, h2, hF⟩
    · subst hr
      have hrec := ih (i + 1) (by omega) (by omega) s2 h2
      obtain ⟨hp2, g2, d2, tk2, os2⟩ := s2
      wp_walk
      rw [hc]
      exact ⟨plainId_quiet plain_eq_loop _, codeAny_builtin entry_eq_loop (by
        rw [Around.under_plainId plain_eq_loop _]
        exact hrec)⟩
    · subst hr
      obtain ⟨jt, jt2, m, m2, tl, tl2, kl1, kb1, ks1, ks2, _⟩ := hl _ _ h2
      have hR := finF _ hF
      obtain ⟨hp2, g2, d2, tk2, os2⟩ := s2
      wp_walk using wpAny_loadPart' kl1, wpAny_loadPart' kb1
      have ki1 : jt[((i : Nat) : Int).toNat]? = some (jt[i]'(by omega)) := by
        have : i < jt.size := by omega
        simp [this]
      have ki2 : jt2[((i : Nat) : Int).toNat]? = some (jt2[i]'(by omega)) := by
        have : i < jt2.size := by omega
        simp [this]
      rw [ki1, ki2]
      wp_walk
      exact hR
theorem list_eqX (l b : Addr) (N : Nat) (I : Nat → Shared → Prop) (Fs : Shared → Prop) (hl : ListX prog w A (fun e s' => R (.error e) s') l b N I Fs)
    (fin : ∀ s, I N s → R (.ok (.ret (.bool true))) s) (finF : ∀ s, Fs s → R (.ok (.ret (.bool false))) s) {s : Shared} (h : I 0 s) :
    wpAny (model prog w) A.in1 (Builtin.«list.__eq__» ⟨[.ref l, .ref b], []⟩) (FinOf prog w A R) (fun e s' => R (.error e) s') s := by
  obtain ⟨items, items2, n, n2, sl, sl2, hl1, hb1, hs1, hs2, _⟩ := hl _ _ h
  have hrec := eq_loopX (A := A) (R := R) l b N I Fs hl fin finF _ 0 rfl (Nat.zero_le _) s h
  obtain ⟨hp, g, d, tk, os⟩ := s
  have f3 := AutoSeq1.sub_list_list
  have hne : ¬ (items.size != items2.size) = true := by simp [hs1, hs2]
  wp_walk using wpAny_loadPart' hl1, wpAny_loadPart' hb1
  exact ⟨plainId_quiet plain_eq_loop _, codeAny_builtin entry_eq_loop (by
    rw [Around.under_plainId plain_eq_loop _]
    exact hrec)⟩
/-- lists of different sizes -/
theorem list_neX {l b : Addr} {items items2 : Array Value} {n n2 : Nat} {sl sl2 : Array (Option Value)} {s : Shared} (hl1 : s.heap.get? l = some { cls := .type "list", data := .seq items n, slots := sl }) (hb1 : s.heap.get? b = some { cls := .type "list", data := .seq items2 n2, slots := sl2 }) (hne : items.size ≠ items2.size)
    (hR : R (.ok (.ret (.bool false))) s) : wpAny (model prog w) A.in1 (Builtin.«list.__eq__» ⟨[.ref l, .ref b], []⟩) (FinOf prog w A R) (fun e s' => R (.error e) s') s := by
  obtain ⟨hp, g, d, tk, os⟩ := s
  have f3 := AutoSeq1.sub_list_list
  have hne' : (items.size != items2.size) = true := by simp [hne]
  wp_walk using wpAny_loadPart' hl1, wpAny_loadPart' hb1
  exact hR
end
section
variable {prog : Program} {w : World} {A : Around} {E : Value → Shared → Prop} {s : Shared}
theorem rc_listX {l b : Addr} {N : Nat} {Q : Value → Shared → Prop} (hu : A.units < cLine) (I : Nat → Shared → Prop) (Fs : Shared → Prop) (hl : ListX prog w A E l b N I Fs)
    (fin : ∀ s, I N s → Q (.bool true) s) (finF : ∀ s, Fs s → Q (.bool false) s) (h : I 0 s) : wpAny (model prog w) A (richCompare .Eq (.ref l) (.ref b)) Q E s := by
  obtain ⟨items, items2, n, n2, sl, sl2, hl1, hb1, _, _, _⟩ := hl _ _ h
  refine wpAny_richCompare_same_room (op := .Eq) ⟨_, hl1, rfl⟩ ⟨_, hb1, rfl⟩ F.slot_list_eq (call_here F.slot_list_eq ⟨_, hl1, rfl⟩ F.entry_list_eq (F.args_list_eq_2 _ _) ?_) hu
  exact list_eqX (R := wants (fun v s' => v ≠ .notImplemented ∧ Q v s') E) l b N I Fs hl (fun s' q => ⟨(fun x => nomatch x), fin s' q⟩) (fun s' q => ⟨(fun x => nomatch x), finF s' q⟩) h
theorem rc_listN {l b : Addr} {items items2 : Array Value} {n n2 : Nat} {sl sl2 : Array (Option Value)} {Q : Value → Shared → Prop} (hu : A.units < cLine) (hl1 : s.heap.get? l = some { cls := .type "list", data := .seq items n, slots := sl }) (hb1 : s.heap.get? b = some { cls := .type "list", data := .seq items2 n2, slots := sl2 }) (hne : items.size ≠ items2.size)
    (h : Q (.bool false) s) : wpAny (model prog w) A (richCompare .Eq (.ref l) (.ref b)) Q E s := by
  refine wpAny_richCompare_same_room (op := .Eq) ⟨_, hl1, rfl⟩ ⟨_, hb1, rfl⟩ F.slot_list_eq (call_here F.slot_list_eq ⟨_, hl1, rfl⟩ F.entry_list_eq (F.args_list_eq_2 _ _) ?_) hu
  exact list_neX (R := wants (fun v s' => v ≠ .notImplemented ∧ Q v s') E) hl1 hb1 hne ⟨(fun x => nomatch x), h⟩
end
end GQ

set_option Elab.async false
set_option linter.all false
set_option maxRecDepth 100000
set_option maxHeartbeats 4000000
namespace Fw
open PySem L2

/-! ### == of two lists whose items have their own == -/
section
variable {X : Cx} {W : Wd} {S : Sg} {k j : Nat} {q : Addr} {R : List D → Out → Prop}
/-- == of two such items, anywhere below the running body -/
theorem item_eq {da db : D} {b : Bool} {A0 : Addr} {n : Nat} (C : Cc X W S k) (F : FnM W S n q 2 [] R) (hd : clD S da = some A0) (hs : PySem.W.findIn W.K (.ref A0) "__eq__" = some (some (.ref q))) (hf : PySem.W.isFn W.K (.ref q) = true) (hn : PySem.W.notFirst W.K A0 (tyD S db) = true)
    (hR : R [da, db] (.ok (.bl b))) (hsame : ∀ (pins : List (Addr × Obj)) (s : Shared) (σ : L2.St) (H : Hp) (M : List Addr) (v : V), L2.Inv X pins σ H s → Rep S (hid M H) v da → Rep S (hid M H) v db → b = true) {A : Around} {pins : List (Addr × Obj)} {s : Shared} {σ : L2.St} {H : Hp} {M : List Addr} {x y : V} {u v : Value} (sb : Sub X n A) (I : L2.Inv X pins σ H s) (rx : RelV x u) (ry : RelV y v) (hdb : ∃ B0, clD S db = some B0)
    (tr : ∀ a ∈ M, H a ≠ none) (q1 : Rep S (hid M H) x da) (q2 : Rep S (hid M H) y db) :
    wpAny (model X.prog X.w) A (eqBool u v) (fun r s' => r = b ∧ ∃ H', L2.Inv X pins σ H' s' ∧ Same H H') X.xe s := by
  obtain ⟨a, ox, od, rfl, J⟩ := inst_at I q1 hd
  obtain ⟨B0, hdb⟩ := hdb
  obtain ⟨a2, ox2, od2, rfl, J2⟩ := inst_at I q2 hdb
  cases rx
  have ry' := ry
  cases ry
  by_cases hab : a = a2
  · subst hab
    rw [hsame _ _ _ _ _ _ I q1 q2]
    exact SeqAt.EqAt.same (A := A) (s := s) (.ref a) X.prog X.w X.xe _ ⟨rfl, H, I, Same.refl H⟩
  · refine GQ.eqBool_refG hab ?_
    obtain ⟨m, hF⟩ := I.fr
    have hs' := hs
    have hf' := hf
    have hn' := hn
    rw [← C.kw] at hs' hf' hn'
    refine PySem.W.cmp_K (op := .Eq) sb.room.units0 hF I.ok.mod.kin J (typ_at C.toKb I q2 ry') hn' hs' hf' ?_
    have e0 : Env0 X.prog X.w X.K X.mg X.base A X.stack s H := by
      have e := I.env0
      exact ⟨by rw [sb.fr]; exact e.frames, e.mod, e.bs, e.bsz, e.funs, e.frf, e.hok, e.bare⟩
    have F' := F.fnr
    obtain ⟨⟨w1, w2, c3, c4⟩, c1, c2⟩ := C
    subst w1
    have hsp : spM S 2 [] R [.ref a, .ref a2] H (fun z H' => z = .bl b ∧ Same H H') E0 := ⟨M, [da, db], _, rfl, tr, .cons q1 (.cons q2 .nil), hR, fun v H' e r => by
      cases r
      exact ⟨rfl, e⟩⟩
    refine wpAny_call (codeAny_mono (F' A X.stack s H [.ref a, .ref a2] [.ref a, .ref a2] _ E0 sb.room e0 (.cons rfl (.cons rfl .nil)) hsp) fun r s' hq => ?_)
    cases r with
    | error e => exact passN pins σ H s e s' I hq
    | ok fl =>
      cases fl with
      | ret w =>
        obtain ⟨z, H', I', rz, ez, ex⟩ := I.after hq
        subst ez
        cases rz
        exact ⟨b, rfl, rfl, H', I', ex⟩
      | next => exact False.elim hq
      | brk => exact False.elim hq
      | cont => exact False.elim hq
/-- one point's numbers -/
theorem rep_pt {pins : List (Addr × Obj)} {s : Shared} {σ : L2.St} {H : Hp} {M : List Addr} {u : V} {a b c x y z : Int} (I : L2.Inv X pins σ H s) (r1 : Rep S (hid M H) u (.pt a b c)) (r2 : Rep S (hid M H) u (.pt x y z)) : D.pt a b c = D.pt x y z := by
  cases r1 with
  | pt h hx hy ho =>
    cases r2 with
    | pt h' hx' hy' ho' =>
      obtain ⟨sl, od, q, J, _⟩ := SlX.slt_inst I (slt_mono hid_le h)
      obtain ⟨sl', od', q', J', _⟩ := SlX.slt_inst I (slt_mono hid_le h')
      have e := J.at_.symm.trans J'.at_
      have e2 : sl = sl' := by
        have := congrArg Obj.slots (Option.some.inj e)
        exact this
      subst e2
      have key : ∀ {i : Nat} {m n : Int}, (∃ v, v = V.int m ∧ ∃ u, sl[i]? = some (some u) ∧ RelV v u) → (∃ v, v = V.int n ∧ ∃ u, sl[i]? = some (some u) ∧ RelV v u) → m = n := fun {i m n} ⟨v, e1, u, g1, s1⟩ ⟨v', e2, u', g2, s2⟩ => by
        subst e1 e2
        rw [g1] at g2
        cases g2
        have := s1.inj s2
        cases this
        rfl
      rw [key ⟨_, rfl, q _ _ hx⟩ ⟨_, rfl, q' _ _ hx'⟩, key ⟨_, rfl, q _ _ hy⟩ ⟨_, rfl, q' _ _ hy'⟩, key ⟨_, rfl, q _ _ ho⟩ ⟨_, rfl, q' _ _ ho'⟩]
/-- where two lists first differ -/
def eqsB (f : D → D → Bool) : List D → List D → Bool
  | [], [] => true
  | a :: l, b :: m => f a b && eqsB f l m
  | _, _ => false
theorem eqsB_false {f : D → D → Bool} : ∀ {l m : List D} {i : Nat} {a b : D}, l[i]? = some a → m[i]? = some b → f a b = false → eqsB f l m = false
  | [], _, _, _, _, h, _, _ => by simp at h
  | _ :: _, [], _, _, _, _, h, _ => by simp at h
  | a :: l, b :: m, 0, _, _, h1, h2, h => by
    simp at h1 h2
    subst h1 h2
    simp [eqsB, h]
  | a :: l, b :: m, i + 1, _, _, h1, h2, h => by
    simp at h1 h2
    simp [eqsB, eqsB_false h1 h2 h]
theorem eqsB_true {f : D → D → Bool} : ∀ {l m : List D}, l.length = m.length → (∀ (i : Nat) a b, l[i]? = some a → m[i]? = some b → f a b = true) → eqsB f l m = true
  | [], [], _, _ => rfl
  | [], _ :: _, h, _ => by simp at h
  | _ :: _, [], h, _ => by simp at h
  | a :: l, b :: m, h, k => by
    unfold eqsB
    rw [k 0 a b rfl rfl, eqsB_true (by simpa using h) fun i a b h1 h2 => k (i + 1) a b (by simpa using h1) (by simpa using h2)]
    rfl
theorem eqsB_len {f : D → D → Bool} : ∀ {l m : List D}, l.length ≠ m.length → eqsB f l m = false
  | [], [], h => absurd rfl h
  | [], _ :: _, _ => rfl
  | _ :: _, [], _ => rfl
  | a :: l, b :: m, h => by
    unfold eqsB
    rw [eqsB_len (l := l) (m := m) (by simpa using h), Bool.and_false]
theorem plain_get {h : Heap} {a : Addr} {its : Array Value} (p : PlainL h a its) : ∃ n sl, h.get? a = some { cls := .type "list", data := .seq its n, slots := sl } := by
  obtain ⟨⟨c, d, da, sl⟩, n, e, h1, h2, h3⟩ := p
  dsimp only at h1 h2 h3
  subst h1 h2 h3
  exact ⟨n, sl, e⟩
theorem c_lstO {f : D → D → Bool} {l m : List D} {A0 : Addr} {n : Nat} (C : Cc X W S k) (F : FnM W S n q 2 [] R) (hs : PySem.W.findIn W.K (.ref A0) "__eq__" = some (some (.ref q))) (hf : PySem.W.isFn W.K (.ref q) = true)
    (hd : ∀ d ∈ l, clD S d = some A0) (hdm : ∀ d ∈ m, ∃ B0, clD S d = some B0) (hn : ∀ d ∈ m, PySem.W.notFirst W.K A0 (tyD S d) = true) (hR : ∀ a ∈ l, ∀ b ∈ m, R [a, b] (.ok (.bl (f a b)))) (hsame : ∀ a ∈ l, ∀ b ∈ m, ∀ (pins : List (Addr × Obj)) (s : Shared) (σ : L2.St) (H : Hp) (M : List Addr) (v : V), L2.Inv X pins σ H s → Rep S (hid M H) v a → Rep S (hid M H) v b → f a b = true) (hk : n + 1 ≤ k) : BinD X S (compareOp .Eq) (.lst l) (.lst m) (.bl (eqsB f l m)) := by
  intro pins s σ H x y v u Q I rx ry ⟨M, tr, r, K⟩
  obtain ⟨x', y', e, q1, q2⟩ := r.two
  cases e
  obtain ⟨pa, xs, rfl, hx, rrx⟩ := lst_of q1
  obtain ⟨pb, ys, rfl, hy, rry⟩ := lst_of q2
  cases rx
  cases ry
  have hx0 : SqL X.K H pa xs := hid_l (by rw [C.kk]; exact hx)
  have hy0 : SqL X.K H pb ys := hid_l (by rw [C.kk]; exact hy)
  show wpAny (model X.prog X.w) X.A (richCompare .Eq (.ref pa) (.ref pb)) (EP X pins σ Q) X.xe s
  obtain ⟨its, vr, po, _⟩ := I.list hx0
  obtain ⟨its2, vr2, po2, _⟩ := I.list hy0
  obtain ⟨no, so, eo⟩ := plain_get po
  obtain ⟨no2, so2, eo2⟩ := plain_get po2
  by_cases hl : l.length = m.length
  · refine GQ.rc_listX (N := l.length) C.room.units0 (fun i s' => (∀ (i' : Nat) a b, i' < i → l[i']? = some a → m[i']? = some b → f a b = true) ∧ ∃ H', L2.Inv X pins σ H' s' ∧ Same H H') (fun s' => eqsB f l m = false ∧ ∃ H', L2.Inv X pins σ H' s' ∧ Same H H') (fun i s' ⟨hb, H1, I1, e1⟩ => ?_) (fun s' ⟨hb, H1, I1, e1⟩ => ?_) (fun s' ⟨hb, H1, I1, e1⟩ => ?_) ⟨fun i' a b z => absurd z (Nat.not_lt_zero _), H, I, Same.refl H⟩
    · obtain ⟨jt, wr, pj, _⟩ := I1.list (SqL.ext hx0 e1)
      obtain ⟨jt2, wr2, pj2, _⟩ := I1.list (SqL.ext hy0 e1)
      obtain ⟨mo, to, fo⟩ := plain_get pj
      obtain ⟨mo2, to2, fo2⟩ := plain_get pj2
      refine ⟨jt.toArray, jt2.toArray, mo, mo2, to, to2, fo, fo2, by rw [List.size_toArray, ← wr.length, rrx.length], by rw [List.size_toArray, ← wr2.length, rry.length, hl], fun h1 h2 => ?_⟩
      have k1 : i < jt.length := by simpa using h1
      have k2 : i < jt2.length := by simpa using h2
      have x1 : i < xs.length := by rw [wr.length]; exact k1
      have y1 : i < ys.length := by rw [wr2.length]; exact k2
      have l1 : i < l.length := by rw [← rrx.length]; exact x1
      have m1 : i < m.length := by rw [← rry.length]; exact y1
      obtain ⟨u1, hu1, ru1⟩ := wr.get (List.getElem?_eq_getElem x1)
      obtain ⟨u2, hu2, ru2⟩ := wr2.get (List.getElem?_eq_getElem y1)
      have g1 : jt.toArray[i] = u1 := by
        rw [List.getElem?_eq_getElem k1] at hu1
        simpa using Option.some.inj hu1
      have g2 : jt2.toArray[i] = u2 := by
        rw [List.getElem?_eq_getElem k2] at hu2
        simpa using Option.some.inj hu2
      obtain ⟨v1, hv1, rv1⟩ := rrx.get (List.getElem?_eq_getElem l1)
      obtain ⟨v2, hv2, rv2⟩ := rry.get (List.getElem?_eq_getElem m1)
      rw [List.getElem?_eq_getElem x1] at hv1
      rw [List.getElem?_eq_getElem y1] at hv2
      have z1 := Option.some.inj hv1
      have z2 := Option.some.inj hv2
      rw [← z1] at rv1
      rw [← z2] at rv2
      rw [g1, g2]
      have ml : l[i] ∈ l := List.getElem_mem l1
      have mm : m[i] ∈ m := List.getElem_mem m1
      refine wpAny_mono (item_eq (A := X.A.in1) (M := M) C F (hd _ ml) hs hf (hn _ mm) (hR _ ml _ mm) (hsame _ ml _ mm) ⟨(C.room.mono (show n + 1 ≤ k from hk)).in1, rfl⟩ I1 ru1 ru2 (hdm _ mm) (fun a ha z => tr a ha (by
        cases hh : H a with
        | none => rfl
        | some o => rw [e1 _ _ hh] at z; cases z)) (rv1.mono (hid_same e1)) (rv2.mono (hid_same e1))) (fun r s2 ⟨hr, H2, I2, e2⟩ => ?_) fun _ _ x => x
      cases hb2 : f l[i] m[i] with
      | true =>
        rw [hb2] at hr
        refine .inl ⟨hr, fun i' a b hi' ha hb' => ?_, H2, I2, e1.trans e2⟩
        rcases Nat.lt_succ_iff_lt_or_eq.mp hi' with z | z
        · exact hb i' a b z ha hb'
        · subst z
          rw [List.getElem?_eq_getElem l1] at ha
          rw [List.getElem?_eq_getElem m1] at hb'
          rw [← Option.some.inj ha, ← Option.some.inj hb']
          exact hb2
      | false =>
        rw [hb2] at hr
        exact .inr ⟨hr, ⟨hb, H2, I2, e1.trans e2⟩, eqsB_false (List.getElem?_eq_getElem l1) (List.getElem?_eq_getElem m1) hb2, H2, I2, e1.trans e2⟩
    · have ht : eqsB f l m = true := eqsB_true hl fun i a b h1 h2 => hb i a b (by
        rcases Nat.lt_or_ge i l.length with z | z
        · exact z
        · rw [List.getElem?_eq_none z] at h1; cases h1) h1 h2
      rw [ht] at K
      exact ⟨.bl true, H1, I1, rfl, K _ H1 e1 (.bl true)⟩
    · rw [hb] at K
      exact ⟨.bl false, H1, I1, rfl, K _ H1 e1 (.bl false)⟩
  · refine GQ.rc_listN C.room.units0 eo eo2 ?_ ?_
    · rw [List.size_toArray, List.size_toArray, ← vr.length, ← vr2.length, rrx.length, rry.length]
      exact hl
    · rw [eqsB_len hl] at K
      exact ⟨.bl false, H, I, rfl, K _ H (Same.refl H) (.bl false)⟩
end
end Fw

set_option Elab.async false
set_option linter.all false
set_option maxRecDepth 100000
set_option maxHeartbeats 4000000
namespace Fw
open PySem L2 PyProof.Rows

/-! ### try: a body that raises nothing; whatever the clauses -/
theorem s_tryN {X : Cx} {W : Wd} {S : Sg} {U : WX} {k : Nat} {N : List Str} {sc : Scope} {g : En} {P : Po} {body : List Stmt} {h0 : ExceptHandler} {hs : List ExceptHandler} {pos : Pos} (b : InB X W S k N sc U)
    (hb : ∀ X' U', InB X' W S k N sc U' → XB X' S U' g body { P with ex := fun _ _ _ => False }) : XS X S U g (.Try body (h0 :: hs) [] [] pos) P := by
  refine ⟨fun pins s σ H D I ⟨B, M, st, c, cx⟩ => ?_⟩
  have ok := I.ok
  refine wpAny_Try_except ?_
  refine wpAny_mono ((hb _ (fun _ _ _ _ => False) (b.try (pn := X.pn ++ pins) (xe := fun _ _ => False) takes0 PassesOwn.never)).run [] s σ H D (I.toTry _) ⟨B, M, st, ⟨c.nx, c.rt, c.bk, c.ct, c.rn⟩, fun _ _ _ _ _ _ _ _ z => z.elim⟩) (fun f s1 hsp => ?_) (fun e s1 he => False.elim he)
  cases f with
  | next =>
    obtain ⟨σ', H', J', q⟩ := hsp
    exact wpAny_execs_nil ⟨σ', H', J'.ofTry ok, q⟩
  | brk =>
    obtain ⟨σ', H', J', q⟩ := hsp
    exact ⟨σ', H', J'.ofTry ok, q⟩
  | cont =>
    obtain ⟨σ', H', J', q⟩ := hsp
    exact ⟨σ', H', J'.ofTry ok, q⟩
  | ret u =>
    obtain ⟨v', σ', H', J', r, q⟩ := hsp
    exact ⟨v', σ', H', J'.ofTry ok, r, q⟩
/-! ### sep.join(texts) -/
theorem strs_of {S : Sg} {H : Hp} : ∀ {ls : List (List Nat)} {vs : List V}, Reps S H vs (ls.map st) → vs = (ls.map tx).map V.str
  | [], _, .nil => rfl
  | l :: ls, _, .cons r t => by
    rw [strs_of (ls := ls) t]
    cases r
    rfl
theorem sum_le {ls : List (List Nat)} {n : Nat} (h : ∀ l ∈ ls, l.length ≤ n) : ((ls.map tx).map (·.length)).sum ≤ ls.length * n := by
  induction ls with
  | nil => simp
  | cons l ls ih =>
    have h1 := h l List.mem_cons_self
    have h2 := ih fun a ha => h a (List.mem_cons_of_mem _ ha)
    rw [List.map_cons, List.map_cons, List.sum_cons, List.length_cons, Nat.succ_mul, SX.S_len]
    omega
section
variable {X : Cx} {W : Wd} {S : Sg} {g : En} {o e : Expr} {pos apos : Pos} {a : List Nat} {ls : List (List Nat)}
theorem e_join (C : Kb X W S) (ho : Fw.XE X S g o (st a)) (ha : Fw.XE X S g e (.lst (ls.map st))) (h1 : ls.length ≤ 1000) (h2 : ∀ l ∈ ls, l.length ≤ 5000) (h3 : a.length ≤ 10) (hs : starEach [e] X.env = [(false, eval e X.env)] := by rfl) (hbase : attributeBase o "join" X.env (eval o X.env) = eval o X.env := by rfl) (hline : (apos.endLine == pos.line) = true := by rfl) :
    Fw.XE X S g (.Call (.Attribute o "join" apos) [e] [] pos) (st (TL.joinL a ls)) :=
  peI (pe_join ho ha hs hbase hline) fun σ H Q ⟨B, M, st', kk⟩ => ⟨B, M, st', fun w H1 e1 r1 => by
    cases r1
    exact ⟨⟨_, rfl⟩, B, M, st'.mono e1, fun w2 H2 e2 r2 => by
      obtain ⟨p, vs, rfl, hp, rr⟩ := lst_of r2
      have := strs_of rr
      subst this
      have m1 := sum_le h2
      have m2 : ls.length * 5000 ≤ 1000 * 5000 := Nat.mul_le_mul_right _ h1
      have m3 : ls.length * a.length ≤ 1000 * 10 := Nat.mul_le_mul h1 h3
      refine ⟨tx a, p, ls.map tx, rfl, rfl, .inl (hid_l (by rw [C.kk]; exact hp)), ?_, ?_⟩
      · rw [List.length_map, SX.S_len]
        omega
      · rw [SX.join_S]
        exact kk _ H2 (e1.trans e2) (.str _)⟩⟩
end
end Fw

set_option Elab.async false
set_option linter.all false
set_option maxRecDepth 100000
set_option maxHeartbeats 4000000
namespace Fw
open PySem L2 PyProof.Rows
section
variable {X : Cx} {W : Wd} {S : Sg} {U : WX} {k j : Nat} {g : En} {P : Po} {o e : Expr} {es : List Expr} {d : D} {ds dd : List D} {x y m cn : Str} {i n c : Nat} {fs : List (Str × D)} {pos p apos : Pos} {A : Addr} {R : List D → Out → Prop} {ou : Out}
/-- cls(e, ..), cls a name for the class c: a new instance -/
theorem f_obc (C : Cc X W S k) (F : ObI W S c cn j n dd R) (N : Nm X i x) (hi : g[i]? = some (.exc (S.cO c) 0 0 [])) (ha : XA X S g (e :: es) ds) (hR : R (ds ++ dd) (.ok (.obj c fs))) (hn : ds.length = n := by rfl) (hj : j + 1 ≤ k := by decide)
    (ht : eval (.Call (.Name x p) (e :: es) [] pos) X.env = (do callWith pos (← eval (.Name x p) X.env) [] (backTo pos (starEach (e :: es) X.env)) (backToKw pos (keywordEach [] X.env))) := by rfl)
    (he : starEach (e :: es) X.env = (false, eval e X.env) :: starEach es X.env := by rfl) (hpl : (backTo pos (starEach es X.env)).any (·.1) = false := by rfl) : XF X S g (.Call (.Name x p) (e :: es) [] pos) (.obj c fs) := by
  obtain ⟨fI, fd, ps, mk, F1, hl, dvs, us, hb, hv, hdd⟩ := F.ex
  have gC := F.gC
  obtain ⟨⟨w1, w2, c3, c4⟩, c1, c2⟩ := C
  subst w1
  refine ⟨fun pins s σ H Q I w => ?_⟩
  obtain ⟨B, M, st, kk⟩ := w
  obtain ⟨ov, ho, e0, _⟩ := st.sl i _ hi
  refine PyProof.Rows.Call_ (thn ((pe_var N.n N.vis N.dbg N.cdt).run pins s σ H (fun v H1 => v = .ref (S.cO c) ∧ H1 = H) I ⟨.ref (S.cO c), by rw [ho, e0], rfl, rfl⟩) fun u s0 ⟨v, H0, I0, rx, e3, e4⟩ => ?_) ht
  subst e3
  subst e4
  obtain rfl : u = Value.ref (S.cO c) := rx
  refine PySem.W.callWith_K (h₀ := X.base) I.ok.mod.kin mk.kp (wpAny_mono (ha.run pos pins s0 σ H0 (fun vs H1 => Same H0 H1 ∧ Reps S (hid M H1) vs ds) I0 ⟨B, M, st, fun vs H1 e1 r => ⟨e1, r⟩⟩) (fun ws s1 w => ?_) fun _ _ z => z) he hpl
  obtain ⟨vs, H1, I1, r1, e1, rr⟩ := w
  have st1 := st.mono e1
  refine ⟨I1.kIn, made_run (U := fun _ _ _ _ => False) mk F1 (c2.mono hj) hb hv takes0 I1 r1 fun a dx ha hdx ne => ?_⟩
  have hs : Same H1 (hid [a] (upd (upd H1 dx (.own a)) a (.ins (S.cO c) dx []))) := fun b u hb => by
    have n1 := ne_of_none hb ha
    have n2 := ne_of_none hb hdx
    refine hid_of (fun z => n1 (List.mem_singleton.mp z)) (by rw [upd_ne n1, upd_ne n2]; exact hb)
  refine ⟨a, dx, vs ++ dvs, M, ds ++ dd, .ok (.obj c fs), rfl, by rw [List.length_append, rr.length, (hdd H1).length, hl]; omega, ne, st1.nm ha, upd_same, fun b hb => ?_, ((rr.append (hdd _)).mono (fun b u hb => ?_)), hR, ⟨rfl, fun ws H2 e2 hl2 rf => ⟨rfl, kk a H2 (e1.free ha) (e1.trans (hs.trans e2)) ⟨dx, ws, hl2, rf⟩⟩⟩⟩
  · have q := st1.trk b hb
    have n1 : b ≠ a := fun z => q (z ▸ ha)
    have n2 : b ≠ dx := fun z => q (z ▸ hdx)
    rw [upd_ne n1, upd_ne n2]
    exact q
  · obtain ⟨h1, h2⟩ := hid_some hb
    have n1 := ne_of_none h2 ha
    have n2 := ne_of_none h2 hdx
    refine hid_of (fun z => ?_) (by rw [upd_ne n1, upd_ne n2]; exact h2)
    rcases List.mem_cons.mp z with z | z
    · exact n1 z
    · exact h1 z
end
end Fw

set_option Elab.async false
set_option linter.all false
set_option maxRecDepth 100000
set_option maxHeartbeats 4000000
namespace Fw
open PySem L2 PyProof.Rows
/-! a test that stores a name (the walrus), while over it -/
theorem ptwI {X : Cx} {e : Expr} {w w' : TTw} (h : PTw X e w) (k : ∀ σ H R, w' σ H R → w σ H R) : PTw X e w' := ⟨fun pins s σ H R I q => h.run pins s σ H R I (k _ _ _ q)⟩
def XTw (X : Cx) (S : Sg) (g : En) (e : Expr) (b : Bool) (g' : En) : Prop := PTw X e fun t H Q => ∃ B M, Stt S B M g t H ∧ ∀ t' H', Stt S B M g' t' H' → Q b t' H'
section
variable {X : Cx} {W : Wd} {S : Sg} {U : WX} {g : En} {P : Po} {a b c e : Expr} {x : Str} {i : Nat} {da db : D} {bb : Bool} {pos p pos2 : Pos} {op : CmpOp} {body : List Stmt}
theorem tw_of {bb : Bool} (h : XT X S g e bb) : XTw X S g e bb g := ptwI (ptw_of h) fun σ H Q ⟨B, M, st, k⟩ => ⟨B, M, st, fun H' e1 => k _ _ (st.mono e1)⟩
theorem XTw.is {b1 b2 : Bool} {g' : En} (h : XTw X S g e b1 g') (q : b1 = b2) : XTw X S g e b2 g' := q ▸ h
/-- (x := a) op b -/
theorem tw_cmp (C : Kb X W S) (N : Nl X i x) (ha : XE X S g a da) (hb : XE X S (g.set i (.v da)) b db) (ho : BinD X S (compareOp op) da db (.bl bb)) (hm : behindInMarks op b = false := by first | exact nomark _ | with_unfolding_all rfl) :
    XTw X S g (.Compare (.NamedExpr (.Name x p) a pos2) [op] [b] pos) bb (g.set i (.v da)) :=
  ptwI (ptw_cmp ho (pew_named C.nd N.n N.loc (pew_of ha) N.fn) hb hm) fun σ H Q ⟨B, M, st, k⟩ => ⟨B, M, st, fun v H1 e1 r1 => ⟨B, M, (st.mono e1).set i r1, fun u H2 e2 r2 => ⟨M, (((st.mono e1).set i r1).mono e2).trk, .cons (r1.mono (hid_same e2)) (.cons r2 .nil), fun w H3 e3 r3 => by
    cases r3
    exact ⟨bb, rfl, k _ _ (((st.mono e1).set i r1).mono (e2.trans e3))⟩⟩⟩⟩
/-- while over a test that stores -/
theorem s_whileW (C : Kb X W S) (I : Nat → En → Prop) (m : Nat) (h0 : I m g)
    (hs : ∀ m g', I m g' → ∃ b g2, XTw X S g' c b g2 ∧ (b = true → XB X S U g2 body { P with nx := fun g2 => ∃ m', m' < m ∧ I m' g2, ct := fun g2 => ∃ m', m' < m ∧ I m' g2, bk := P.nx }) ∧ (b = false → P.nx g2)) : XS X S U g (.While c body [] pos) P := by
  have hc : PTw X c (fun t H Q => ∃ g' b g2 B M, XTw X S g' c b g2 ∧ Stt S B M g' t H ∧ ∀ t' H', Stt S B M g2 t' H' → Q b t' H') := ⟨fun pins s σ H Q I ⟨g', b, g2, B, M, hx, st, kk⟩ => hx.run pins s σ H Q I ⟨B, M, st, kk⟩⟩
  have hb : PSs X body (fun E t H => ∃ g' P', XB X S U g' body P' ∧ ∃ B M, Stt S B M g' t H ∧ Ct S B U P' E ∧ Cx' S B U P') := ⟨fun pins s σ H E I ⟨g', P', hx, w⟩ => hx.run pins s σ H E I w⟩
  refine psI (ps_whileW C.own hc hb pss_nil) fun E σ H ⟨B, M, st, c, x⟩ => ?_
  refine ⟨fun m t H => ∃ g' M, I m g' ∧ Stt S B M g' t H, ⟨m, g, M, h0, st⟩, ?_⟩
  rintro m t H ⟨g', M, hI, st⟩
  obtain ⟨b, g2, hx, h1, h2⟩ := hs m g' hI
  refine ⟨g', b, g2, B, M, hx, st, fun t1 H1 st1 => ?_⟩
  cases b with
  | true =>
    refine iteT ⟨fun t2 H2 => ∃ m' g2 M2, m' < m ∧ I m' g2 ∧ Stt S B M2 g2 t2 H2, fun t2 H2 ⟨m', g2, M2, a1, a2, a3⟩ => ⟨m', a1, g2, M2, a2, a3⟩, g2, _, h1 rfl, B, M, st1, ⟨?_, c.rt, c.nx, ?_, c.rn⟩, x⟩
    · rintro g2 M2 t2 H2 ⟨m', a1, a2⟩ st2
      exact ⟨m', g2, M2, a1, a2, st2⟩
    · rintro g2 M2 t2 H2 ⟨m', a1, a2⟩ st2
      exact ⟨m', g2, M2, a1, a2, st2⟩
  | false => exact iteF (c.nx _ _ _ _ (h2 rfl) st1)
end
end Fw

set_option Elab.async false
set_option linter.all false
set_option maxRecDepth 100000
set_option maxHeartbeats 4000000
namespace Fw
open PySem L2 PyProof.Rows
section
variable {X : Cx} {W : Wd} {S : Sg} {U : WX} {k : Nat} {g : En} {P : Po} {e : Expr} {es : List Expr} {x : Str} {i : Nat} {ds dd : List D} {pos p : Pos}
/-- [*t, ..] of a tuple -/
theorem a_starT {sp : Pos} (C : Kb X W S) (he : Fw.XE X S g e (.tup ds)) (t : XA X S g es dd) (hs : starEach (.Starred e sp :: es) X.env = (true, eval e X.env) :: starEach es X.env := by rfl) : XA X S g (.Starred e sp :: es) (ds ++ dd) :=
  paI (StX.pa_star he t hs) fun σ H Q ⟨B, M, st, kk⟩ => ⟨B, M, st, fun v H1 e1 r => by
    cases r with
    | tup hq rr => exact ⟨_, _, rfl, .inl (hid_t (by rw [C.kk]; exact hq)), B, M, st.mono e1, fun us H2 e2 r2 => kk _ H2 (e1.trans e2) ((rr.mono (hid_same e2)).append r2)⟩⟩
/-- [*xs, ..] of one's own list -/
theorem a_starOwn {sp q : Pos} (C : Kb X W S) (N : Nm X i x) (hi : g[i]? = some (.own ds)) (t : XA X S g es dd) (hs : starEach (.Starred (.Name x q) sp :: es) X.env = (true, eval (.Name x q) X.env) :: starEach es X.env := by rfl) : XA X S g (.Starred (.Name x q) sp :: es) (ds ++ dd) :=
  paI (StX.pa_star (pe_var N.n N.vis N.dbg N.cdt) t hs) fun σ H Q ⟨B, M, st, kk⟩ => by
    obtain ⟨l, vs, ht, hm, h0, hl, r⟩ := st.own hi
    exact ⟨.ref l, ht, l, vs, rfl, .inr (SqL.of hl), B, M, st, fun us H2 e2 r2 => kk _ H2 e2 ((r.mono (hid_same e2)).append r2)⟩
theorem set_self {α : Type} {l : List α} {i : Nat} {a : α} (h : l[i]? = some a) : l.set i a = l := by
  refine List.ext_getElem? fun j => ?_
  rw [List.getElem?_set]
  split
  · rename_i z
    subst z
    obtain ⟨hl, _⟩ := List.getElem?_eq_some_iff.mp h
    rw [if_pos hl, h]
  · rfl
/-- xs += [..], an own list made longer by a new one -/
theorem s_augExt (C : Kb X W S) (N : Nl X i x) (hi : g[i]? = some (.own ds)) (he : XN X S g e dd) (hz : ds.length + dd.length ≤ 100000) (h : P.nx (g.set i (.own (ds ++ dd)))) : XS X S U g (.AugAssign (.Name x p) .Add e pos) P :=
  psI (ps_aug C.nd N.n N.loc he iop_ext N.fn) fun E σ H ⟨B, M, st, c, _⟩ => by
    obtain ⟨l, vs, ht, hm, h0, hl, r⟩ := st.own hi
    refine ⟨.ref l, ht, B, M, st, fun q zs H1 hq e1 hq1 rr => ?_⟩
    have hlq : l ≠ q := fun z => by rw [z, hq] at hl; cases hl
    have ek := st.keep hq e1 hq1
    have r1 := ((r.mono (hid_same e1)).length)
    refine ⟨l, q, vs, zs, rfl, rfl, e1 _ _ hl, hq1, by rw [r.length, rr.length]; exact Nat.le_trans hz (by rw [sizeLine_eq]; decide), ?_⟩
    show E.nx (σ.set i (some (.ref l))) _
    rw [set_self ht]
    obtain ⟨l', vs', ht', hm', h0', hl', r'⟩ := ek.own hi
    rw [ht] at ht'
    cases ht'
    rw [e1 _ _ hl] at hl'
    cases hl'
    exact c.nx _ (q :: M) _ _ h (ek.upOwn hi ht hm' h0' (e1 _ _ hl) (r'.append rr))
end
end Fw

set_option Elab.async false
set_option linter.all false
set_option maxRecDepth 100000
set_option maxHeartbeats 4000000
namespace Fw
open PySem L2 PyProof.Rows
section
variable {X : Cx} {W : Wd} {S : Sg} {g : En} {e : Expr} {x y f : Str} {fns : List Str} {i c : Nat} {d : D} {fs : List (Str × D)} {v : V} {u : Value} {pos p : Pos} {A : Addr}
/-- self.F of an object in the making, F a constant of its class -/
theorem e_conS {a dx : Addr} (C : Kb X W S) (OC : ObC W S c x fns) (k : Con W.K (S.cO c) f v u) (N : Nm X i y) (hi : g[i]? = some (.ob a dx c fs)) (hl : fs.lookup f = none) (hv : ∀ H, Rep S H v d) (hb : attributeBase (.Name y p) f X.env (eval (.Name y p) X.env) = eval (.Name y p) X.env := by rfl) : Fw.XE X S g (.Attribute (.Name y p) f pos) d :=
  peI (pe_con (pe_var N.n N.vis N.dbg N.cdt) hb) fun σ H Q ⟨B, M, st, kk⟩ => by
    obtain ⟨o, ho, e1, hm', h0, ws, hl', r⟩ := st.sl i _ hi
    exact ⟨.ref a, by rw [ho, e1], a, _, dx, ws, v, u, rfl, hl', by rw [C.kw]; exact OC.cls, by rw [C.kw]; exact k, r.lookN hl, kk v H (Same.refl H) (hv _)⟩
/-- a thing of the module -/
theorem e_gval (C : Kb X W S) (G : Ng X x) (hm : W.mg x = some (.ref A)) (hv : ∀ H, Rep S H (.ref A) d) : Fw.XE X S g (.Name x p) d :=
  peI (pe_glob (v := .ref A) G.gl (C.mg hm) rfl G.dbg) fun σ H Q ⟨B, M, st, kk⟩ => kk _ H (Same.refl H) (hv _)
end
end Fw

set_option Elab.async false
set_option linter.all false
set_option maxRecDepth 100000
set_option maxHeartbeats 4000000
namespace Fw
open PySem L2 PyProof.Rows
section
variable {X : Cx} {W : Wd} {S : Sg} {U : WX} {g : En} {P : Po} {e : Expr} {x : Str} {i : Nat} {ds : List D} {d : D} {pos p cpos apos : Pos}
/-- own.pop(0) -/
theorem s_pop0 (C : Kb X W S) (N : Nm X i x) (hi' : g[i]? = some (.own (d :: ds))) (he : Fw.XE X S g e (.int 0)) (h : P.nx (g.set i (.own ds))) (hline : (apos.endLine == cpos.line) = true := by rfl) (hs1 : starEach [e] X.env = (false, eval e X.env) :: starEach [] X.env := by rfl)
    (hs : swapsWith (.Call (.Attribute (.Name x p) "pop" apos) [e] [] cpos) none pos.line X.env = pure false := by rfl) : XS X S U g (.Expr (.Call (.Attribute (.Name x p) "pop" apos) [e] [] cpos) pos) P := by
  have ha : XA X S g [e] [.int 0] := a_cons he a_nil hs1
  have hfew : ((backTo cpos (starEach [e] X.env)).all (fun x => !x.1) && (backToKw cpos (keywordEach [] X.env)).all (fun x => x.1.isSome) && decide ([e].length + ([] : List Keyword).length + (if ([] : List Keyword).isEmpty then 0 else 1) < 30)) = true := by
    rw [hs1]
    rfl
  refine psI (ps_expr (pe_bm PySem.F.plainAttrs_list PySem.F.slot_list_pop PySem.F.type_list_pop mt_popAt (pe_var N.n N.vis N.dbg N.cdt) ha rfl hfew hline hs1 rfl) hs) fun E σ H ⟨B, M, st, c, _⟩ => ?_
  obtain ⟨l, vs, ht, hm, h0, hl, r⟩ := st.own hi'
  refine ⟨.ref l, ht, .inl ⟨rfl, vs, SqL.of hl⟩, B, M, st, fun ws H1 e1 rw => ?_⟩
  obtain ⟨y, e2, ry⟩ := rw.one
  subst e2
  cases ry
  cases r with
  | cons r0 rr =>
    refine ⟨l, _, 0, 0, _, rfl, rfl, e1 _ _ hl, by decide, by decide, ?_, rfl, ?_⟩
    · unfold seqIndex?
      simp
    · exact c.nx _ _ _ _ h ((st.mono e1).upOwn hi' ht hm h0 (e1 _ _ hl) (rr.mono (hid_same e1)))
end
end Fw

set_option Elab.async false
set_option linter.all false
set_option maxRecDepth 100000
set_option maxHeartbeats 4000000
namespace Fw
open PySem L2 PyProof.Rows
section
variable {X : Cx} {W : Wd} {S : Sg} {k : Nat}
/-- d not in a list, by data -/
theorem c_notInD {d1 : D} {ds : List D} (C : Kb X W S) (hu : X.A.units + 65 < cLine) (f1 : flat d1 = true) (f2 : flat (.lst ds) = true) (s1 : SeqAt.shaped (pdOf d1) = true) (s2 : SeqAt.shaped (.list (pdsOf ds)) = true) : BinD X S (compareOp .NotIn) d1 (.lst ds) (.bl (!(pdsOf ds).any fun z => PyData.eqv z (pdOf d1))) := by
  intro pins s σ H v w u z Q I rx ry ⟨M, _, q, K⟩
  obtain ⟨x', y', e, q1, q2⟩ := q.two
  cases e
  have h1 := dp_mono hid_le (dp_of q1 f1)
  have h2 := dp_mono hid_le (dp_of q2 f2)
  rw [← C.kk] at h1 h2
  exact op_notInD hu pins s σ H _ _ u z Q I rx ry ⟨_, _, h1, h2, s1, s2, K _ H (Same.refl H) (.bl _)⟩
end
end Fw

set_option Elab.async false
set_option linter.all false
set_option maxRecDepth 100000
set_option maxHeartbeats 4000000
namespace Fw
open PySem L2 PyProof.Rows
section
variable {X : Cx} {W : Wd} {S : Sg} {U : WX} {k : Nat} {g g' : En} {e tg : Expr} {P : Po} {d d1 d2 : D} {ds ds0 : List D} {pos p2 : Pos}
/-- t[lo:hi] of a tuple, not the whole of it -/
theorem e_cutT {ol oh : Option Expr} {ll hh : Option Int} (C : Kb X W S) (he : Fw.XE X S g e (.tup ds)) (hl : XO X S g ol ll) (hu : XO X S g oh hh) (hw : ¬ (HT.sIx ds.length 0 ll = 0 ∧ HT.sIx ds.length ds.length hh = ds.length)) : Fw.XE X S g (.Subscript e (.Slice ol oh none p2) pos) (.tup (cutD ds ll hh)) :=
  peI (pe_slice sl_tup he hl hu) fun σ H Q ⟨B, M, st, kk⟩ => ⟨B, M, st, fun v H1 e1 r => ⟨B, M, st.mono e1, fun H2 e2 => ⟨B, M, st.mono (e1.trans e2), fun H3 e3 => by
    cases r with
    | tup hq rr =>
      have e13 := e2.trans e3
      refine ⟨_, _, rfl, Evl.ex_t e13 (hid_t (by rw [C.kk]; exact hq)), by rw [rr.length]; exact hw, fun q hp => ?_⟩
      have e0 := (e1.trans e13)
      exact kk _ _ (e0.trans (same_upd hp)) (.tup (SqT.of (hid_of ((st.mono e0).nm hp) upd_same)) ((rr.mono (hid_same e13)).cut.mono (hid_same (same_upd hp))))⟩⟩⟩
/-- a, b, *c = a tuple -/
theorem g_star2 {es es0 : List Expr} {z : Nat} (C : Cc X W S k) (h : XGs X S g es0 [d1, d2, .lst ds0] g') (hl : ds0.length ≤ 900) (he : (assignEach es X.env).map (·.2) = (assignEach es0 X.env).map (·.2) := by rfl)
    (hn : (assignEach es X.env).length = 3 := by rfl) (hst : (assignEach es X.env).findIdx? (·.1) = some 2 := by rfl) : XGN X S g (.Tuple es z pos) (.tup (d1 :: d2 :: ds0)) g' :=
  pgI (pg_star C.calm h he hn hst (by decide)) fun v σ H Q ⟨B, M, st, r, kk⟩ => by
    cases r with
    | @tup a xs _ hq rr =>
      cases rr with
      | @cons x1 _ ys _ r1 rr =>
        cases rr with
        | @cons x2 _ vs _ r2 rr =>
          have hlen := rr.length
          refine ⟨_, _, rfl, hid_t (by rw [C.kk]; exact hq), by simp, by simp; omega, fun p hp => ?_⟩
          have e1 : ((x1 :: x2 :: vs).drop 2).take ((x1 :: x2 :: vs).length + 1 - 3) = vs := by simp
          have e2 : (x1 :: x2 :: vs).take 2 ++ [V.ref p] ++ ((x1 :: x2 :: vs).drop 2).drop ((x1 :: x2 :: vs).length + 1 - 3) = [x1, x2, .ref p] := by simp
          rw [e1, e2]
          have e3 := same_upd (o := .lst vs) hp
          have hself : (upd H p (.lst vs)) p = some (.lst vs) := upd_same
          refine ⟨B, M, st.mono e3, .cons (r1.mono (hid_same e3)) (.cons (r2.mono (hid_same e3)) (.cons (.lst (SqL.of (hid_of (st.nm hp) hself)) (rr.mono (hid_same e3))) .nil)), fun t' st' => kk t' _ e3 st'⟩
/-- such a target assigned to -/
theorem s_asgTN {tg : Expr} (he : Fw.XE X S g e d) (ht : XGN X S g tg d g') (h : P.nx g') (hs : swapsWithSole [tg] e pos.line X.env = pure false := by rfl) (hw : swappedStores [tg] e X.env = pure none := by rfl)
    (h1 : (assignEach [tg] X.env).map (·.2) = [assign tg X.env] := by rfl) : XS X S U g (.Assign [tg] e pos) P :=
  psI (ps_asg he ht hs hw h1) fun E σ H ⟨B, M, st, c, _⟩ => ⟨B, M, st, fun v H1 e1 r => ⟨B, M, st.mono e1, r, fun t' H' _ st' => c.nx _ _ _ _ h st'⟩⟩
end
end Fw

set_option Elab.async false
set_option linter.all false
set_option maxRecDepth 100000
set_option maxHeartbeats 4000000
namespace Fw
open PySem L2 PyProof.Rows ItX
/-! ### the world's heap, filled up with places that hold nothing -/
def padB (b : Heap) (n : Nat) : Heap := { b with objs := b.objs ++ Array.replicate (n - b.objs.size) ⟨.none, none, .freed, #[]⟩ }
theorem pad_get {b : Heap} {n a : Nat} : (padB b n).get? a = b.get? a := by
  unfold Heap.get? padB
  dsimp only
  rw [Array.getElem?_append]
  by_cases h : a < b.objs.size
  · rw [if_pos h]
  · rw [if_neg h, Array.getElem?_replicate]
    have e : b.objs[a]? = none := by simpa using h
    rw [e]
    by_cases h2 : a - b.objs.size < n - b.objs.size
    · rw [if_pos h2]
    · rw [if_neg h2]
theorem pad_size {b : Heap} {n : Nat} (h : b.objs.size ≤ n) : (padB b n).objs.size = n := by
  unfold padB
  simp
  omega
theorem pad_keep {b : Heap} {n : Nat} : ∀ a o, b.get? a = some o → (padB b n).get? a = some o := fun a o h => pad_get.trans h
theorem pad_funs {h b : Heap} {n : Nat} : ∀ {l : List Env}, h.FunFrames b l → h.FunFrames (padB b n) l
  | [], _ => trivial
  | _ :: _, ⟨h1, ⟨L, o, h2, h3, h4, h5⟩, h6⟩ => ⟨h1, ⟨L, o, h2, pad_get.trans h3, h4, h5⟩, pad_funs h6⟩
theorem env0_pad {P : Program} {w : World} {K : PySem.W.Frag} {mg : Str → Option Value} {base : Heap} {A : Around} {outer : List Env} {s : Shared} {H : Hp} {n : Nat} (e : Env0 P w K mg base A outer s H) (hn : base.objs.size ≤ n) (hs : n ≤ s.heap.objs.size) : Env0 P w K mg (padB base n) A outer s H := by
  obtain ⟨kin, glob, ⟨mb, b1, b2⟩, nl⟩ := e.mod
  exact ⟨e.frames, ⟨kin.keeps pad_keep, glob.keeps pad_keep, ⟨mb, b1.keeps pad_keep, b2⟩, Heap.NoLimit.at nl fun o h => pad_keep _ o h⟩, fun b o h => e.bs b o (pad_get.symm.trans h), by rw [pad_size hn]; exact hs, pad_funs e.funs, e.frf, e.hok, e.bare⟩
theorem call_iterB {X : Cx} : CallR X (.builtin "iter") (rIterN X.K X.base.objs.size) := fun pins s σ H xs us Q I r ⟨l, zs, e, hq, q⟩ =>
  call_iterN pins s σ H xs us Q I r ⟨l, zs, e, hq, fun it hi hn => q it hi (Nat.le_trans I.ok.bsz hn)⟩
/-! ### a class's own __iter__: return iter(self.f) -/
def spIter (S : Sg) (n c : Nat) (f : Str) : Sp := fun vs H Q _ => ∃ a dx ws l zs, vs = [.ref a] ∧ H a = some (.ins (S.cO c) dx ws) ∧ ws.lookup f = some (.ref l) ∧ SqL S.K H l zs ∧ ∀ it, H it = none → n ≤ it → Q (.ref it) (upd H it (ItO l it 0))
section
variable {W : Wd} {S : Sg} {c : Nat} {x f : Str} {fns : List Str}
theorem iter_body {X : Cx} {a dx l : Addr} {ws : List (Str × V)} {zs : List V} {p1 p2 p3 p4 p5 : Pos} (hK : X.K = W.K) (n0 : Nm X 0 "self") (G : Ng X "iter") (nI : X.mg "iter" = none) (OC : ObC W S c x fns) (hm : f ∈ fns) :
    PSs X [.Return (some (.Call (.Name "iter" p1) [.Attribute (.Name "self" p2) f p3] [] p4)) p5] (fun E t H => t[0]? = some (some (.ref a)) ∧ H a = some (.ins (S.cO c) dx ws) ∧ ws.lookup f = some (.ref l) ∧ SqL X.K H l zs ∧ ∀ it, H it = none → X.base.objs.size ≤ it → E.rt (.ref it) (upd H it (ItO l it 0))) := by
  refine psbI (pss_cons (ps_ret (pe_callB call_iterB G.gl nI PyProof.Rows.Boot.«iter» (pa_cons (pe_fld (pe_var n0.n n0.vis n0.dbg n0.cdt) (by rfl)) pa_nil (by rfl)) (by decide) G.dbg (by rfl) (by rfl))) pss_nil) fun E t H ⟨t0, ha, hf, hz, K⟩ => ?_
  exact ⟨.ref a, t0, a, _, dx, ws, .ref l, rfl, ha, by rw [hK]; exact OC.cls, by rw [hK]; exact OC.nof f hm, hf, l, zs, rfl, hz, K⟩
theorem iter_ok (base : Heap) {qual : Str} {st : Stmt} {fa : Addr} {fd : FuncData} {p1 p2 p3 p4 p5 : Pos} (F : Fd W.K "__iter__" qual st [] fa fd) (hK : W.K = S.K) (sc : FnScope ["self"] ["self"] (defScope st))
    (hb : defBody st = [.Return (some (.Call (.Name "iter" p1) [.Attribute (.Name "self" p2) f p3] [] p4)) p5]) (nI : W.mg "iter" = none) (OC : ObC W S c x fns) (hm : f ∈ fns)
    (v0 : (defScope st).names.lookup ("self" : Str) = some .local ∨ (defScope st).names.lookup ("self" : Str) = some .cell) (v1 : (defScope st).names.lookup ("iter" : Str) = some .globalImplicit) :
    FnOk W.P W.w W.K W.mg base (L2N.CX W.P W.w) 1 fa fd ["self"] (spIter S base.objs.size c f) := by
  obtain ⟨oc, od, dV, kV, doc, pm, an, cdv, ct, osl, rfl, lk, hcd, _, _⟩ := F.ex
  refine fn_of lk hcd sc (fun vs H Q E ⟨a, _, _, _, _, e, _⟩ => by rw [e]; rfl) (fun A outer s H vs Q E hr h => ?_)
  obtain ⟨a, dx, ws, l, zs, rfl, ha, hf, hz, K⟩ := h
  refine ⟨fun E t H => t[0]? = some (some (.ref a)) ∧ H a = some (.ins (S.cO c) dx ws) ∧ ws.lookup f = some (.ref l) ∧ SqL W.K H l zs ∧ ∀ it, H it = none → base.objs.size ≤ it → E.rt (.ref it) (upd H it (ItO l it 0)), ?_, ?_⟩
  · rw [hb]
    have i0 : In0 (cxOf (L2N.CX W.P W.w) W.P W.w W.K W.mg base ["self"] qual (defScope st) fa cdv A outer s H E) ⟨W.P, W.w, W.K, W.mg, base⟩ S ["self"] (defScope st) := ⟨⟨rfl, hK, passes_of rfl, sc.nd⟩, rfl, rfl, fun _ => rfl⟩
    exact iter_body rfl (nm_of rfl rfl rfl v0 (by decide) (by decide)) (i0.ng "iter" v1 (by decide)) nI OC hm
  · exact ⟨rfl, ha, hf, by rw [hK]; exact hz, K⟩
/-- what the class says of it -/
structure IterC (W : Wd) (S : Sg) (c : Nat) (f : Str) : Prop where
  ex : ∃ q fd, PySem.W.findIn W.K (.ref (S.cO c)) "__iter__" = some (some (.ref q)) ∧ PySem.W.isFn W.K (.ref q) = true ∧ (∀ base : Heap, FnOk W.P W.w W.K W.mg base (L2N.CX W.P W.w) 1 q fd ["self"] (spIter S base.objs.size c f)) ∧ Binds W.K fd ["self"] []
end
section
variable {X : Cx} {W : Wd} {S : Sg} {c k : Nat} {x f : Str} {g : En} {tg e : Expr} {fs : List (Str × D)} {ds : List D}
/-- for y in o, o of such a class -/
theorem i_own (C : Cc X W S k) (F : IterC W S c f) (he : Fw.XE X S g e (.obj c fs)) (hl : fs.lookup f = some (.lst ds)) (hk : 1 ≤ k) : XI X S g tg e ds.length (itOf ds) := by
  obtain ⟨q, fd, hs, hf, Fn, hb⟩ := F.ex
  have wd := C.wd
  unfold wdOf at wd
  subst wd
  refine ⟨fun pins s σ H R I ⟨B, M, st, kk⟩ => ?_⟩
  refine thn (he.run pins s σ H (fun v H1 => Same H H1 ∧ Rep S (hid M H1) v (.obj c fs)) I ⟨B, M, st, fun v H1 e1 r => ⟨e1, r⟩⟩) fun u s1 ⟨v, H1, I1, r1, e1, r⟩ => ?_
  cases r with
  | @obj a dx _ ws _ hi rr =>
    cases r1
    obtain ⟨w, hw, rw'⟩ := rr.look hl
    cases rw' with
    | @lst l zs _ hq rs =>
      have hi' := (hid_some hi).2
      obtain ⟨mA, O, _⟩ := ins_get I1.hok hi'
      obtain ⟨od, J, _⟩ := O.look
      obtain ⟨m0, hF⟩ := I1.fr
      refine PySem.W.owit_iter hF I1.ok.mod.kin J hs hf ?_
      have kx : X.K = S.K := C.kk
      have hsp : spIter S X.s_0.heap.objs.size c f [.ref a] H1 (fun v H' => ∃ it, H1 it = none ∧ X.s_0.heap.objs.size ≤ it ∧ v = .ref it ∧ H' = upd H1 it (ItO l it 0)) E0 := ⟨a, dx, ws, l, zs, rfl, hi', hw, hid_l hq, fun it h1 h2 => ⟨it, h1, h2, rfl, rfl⟩⟩
      have FB := Fn (padB X.base X.s_0.heap.objs.size)
      rw [pad_size I1.ok.bsz] at FB
      refine wpAny_call (codeAny_mono (FB.run X.A X.stack s1 H1 ⟨[.ref a], []⟩ [.ref a] [.ref a] _ E0 (C.room.mono hk) (env0_pad I1.env0 I1.ok.bsz I1.sz) (by have := hb s1 [.ref a] I1.kIn rfl; simpa using this) (.cons rfl .nil) hsp) fun r s' hq' => ?_)
      cases r with
      | error e => exact passN pins σ H1 s1 e s' I1 hq'
      | ok fl =>
        cases fl with
        | next => exact False.elim hq'
        | brk => exact False.elim hq'
        | cont => exact False.elim hq'
        | ret u =>
          obtain ⟨v, H', I', rv, it, hit, hn, rfl, rfl⟩ := I1.after hq'
          cases rv
          have hi2 : (upd H1 it (ItO l it 0)) it = some (ItO l it 0) := upd_same
          have eo := itO_get I' hi2
          have st2 : s'.heap.IsListIter it l 0 := ⟨_, eo, rfl, rfl⟩
          have hT : s'.TypeIs (.ref it) "list_iterator" := ⟨_, eo, rfl⟩
          unfold PySem.W.OwitIt
          refine wpAny_specialOf (name := Str.ofString "__next__") hT slot_listiter_next.lookup ?_
          refine ⟨it, [it], _, _, dropH (upd H1 it (ItO l it 0)) it, rfl, inv_drop I' hi2, turn_list l it, st2, fun b hb => ?_, ?_⟩
          · have e : b = it := by simpa using hb
            rw [e]
            exact inv_fp I' hi2 hn
          · rw [dropH_upd hit, kx]
            exact kk (Itl S.K l) (fun H => SqL S.K H l zs ∧ Reps S H zs ds) H1 e1 walks_list ⟨hq, rs⟩
end
end Fw

set_option Elab.async false
set_option linter.all false
set_option maxRecDepth 100000
set_option maxHeartbeats 4000000
namespace Fw
open PySem L2 PyProof.Rows ItX
section
variable {X : Cx} {W : Wd} {S : Sg} {U : WX} {P : Po} {k : Nat} {g : En} {iter : Expr} {ds : List D} {x y : Str} {ix iy : Nat} {px p2 py pos spos : Pos} {scope : Scope}
/-- y = [x for x in iter] -/
theorem lc_copyS (C : Cc X W S k) (hl : ds.length ≤ 100000) (Ny : Nl X iy y) (hyl : X.env.scope.names.lookup y = some .local) (hi : XI X S g (.Name x px) iter ds.length (itOf ds)) (ok : BlkOk X.N X.env.scope scope [(x, ix)]) (hn : X.N[ix]? = some x) (hv : scope.names.lookup x = some .local) (hx : ix < g.length)
    (hP : P.nx (g.set iy (.own ds))) (hsw : swapsWith (.ListComp (.Name x p2) [⟨.Name x px, iter, [], 0⟩] scope pos) (some (.Name y py)) spos.line X.env = pure true) (h1 : (x == ("__debug__" : Str)) = false := by decide) (h2 : (x == ("__classdict__" : Str)) = false := by decide)
    (hs : ∀ x, foldedSetIterable iter X.env x = pure x := by intro _; rfl) : XS X S U g (.Assign [.Name y py] (.ListComp (.Name x p2) [⟨.Name x px, iter, [], 0⟩] scope pos) spos) P := by
  have hr : resL (fun _ => true) (itOf ds) ds.length = ds := by
    rw [resL_map]
    have := range_get (l := ds) (f := fun d => d) (z := D.non)
    rw [List.map_id'] at this
    exact this
  rw [← hr] at hP
  refine s_setLc C Ny hyl hi ok (fun _ => true) (itOf ds) (fun i => (wipeG g [ix]).set ix (.v (itOf ds i))) hl (fun X' bk i hi => ⟨?_, ts_nil, fun _ => ?_⟩) hP hsw hs
  · exact gw_name bk.C.toKb (bk.lc ix x hn hv) List.mem_cons_self
  · exact e_var (bk.own ix x hn hv h1 h2) (by
      rw [List.getElem?_set_self]
      show ix < ((wipeG g []).set ix .no).length
      rw [List.length_set]
      exact hx)
end
/-! ### list(o), o of a class with such an __iter__ -/
section
variable {X : Cx} {pins : List (Addr × Obj)} {σ : L2.St} {H0 : Hp} {A1 : Around} {q l it : Addr} {zs : List V} {Rs : Result → Shared → Prop} {n : Nat}
theorem lit_loop (sb : Sub X n A1.in1) (hdone : ∀ s, L2.Inv X pins σ (upd H0 q (.lst zs)) s → Rs (.ok (.ret .none)) s) (hq0 : H0 q = none) (hz : SqL X.K H0 l zs) (hf : FpOk X pins H0 it) (hne : it ≠ q) :
    ∀ (k i : Nat) (s : Shared), zs.length - i = k → i ≤ zs.length → L2.Inv X pins σ (upd H0 q (.lst (zs.take i))) s → s.heap.IsListIter it l i → codeAny (model X.prog X.w) A1 (.builtin "list.extend.loop" ⟨[.ref q, .ref it, .none], []⟩) Rs s := by
  obtain ⟨f0, f1, f2, f3, f4, f5⟩ := hf
  intro k
  induction k with
  | zero =>
    intro i s hk hi I st
    have e : i = zs.length := by omega
    refine codeAny_builtin PySem.F.entry_extend_loop ?_
    rw [Around.under_plainId PySem.F.plain_extend_loop _]
    show wpAny _ A1.in1 (pyNext (.ref it) >>= _) _ _ s
    have hz' := Evl.ex_l (same_upd (o := .lst (zs.take i)) hq0) hz
    obtain ⟨its, rv, p, hzz⟩ := I.list hz'
    have hl := rv.length
    refine wpAny_bind (wpAny_pyNext_list_end sb.room.hd st p.isList (by simp; omega) fun h' eb => ?_)
    have I1 := I.turned (h' := h') (t' := s.toks) (fun b o hb e => eb b o hb e) ((upd_ne hne).trans f0) f1 f3 f4 f5
    rw [e, List.take_length] at I1
    exact wpAny_pure (hdone _ I1)
  | succ k ih =>
    intro i s hk hi I st
    refine codeAny_builtin PySem.F.entry_extend_loop ?_
    rw [Around.under_plainId PySem.F.plain_extend_loop _]
    show wpAny _ A1.in1 (pyNext (.ref it) >>= _) _ _ s
    have hlt : i < zs.length := by omega
    have hz' := Evl.ex_l (same_upd (o := .lst (zs.take i)) hq0) hz
    obtain ⟨its, rv, p, hzz⟩ := I.list hz'
    have hl := rv.length
    obtain ⟨u, hu, ru⟩ := rv.get (List.getElem?_eq_getElem hlt)
    refine wpAny_bind (wpAny_pyNext_list_item st p.isList (x := u) (by simpa using hu) fun h' st' sb' => ?_)
    have I1 := I.turned (h' := h') (t' := s.toks) (fun b o hb e => (sb'.2 b hb).trans e) ((upd_ne hne).trans f0) f1 f3 f4 f5
    show wpAny _ A1.in1 (updateSeq q (·.push u) >>= _) _ _ _
    obtain ⟨z, its2, k2, r2, hl2, e2⟩ := I1.lstM (upd_same (H := H0) (a := q) (o := .lst (zs.take i)))
    have h2 := r2.length
    have ht : (zs.take i).length = i := by rw [List.length_take]; omega
    refine wpAny_bind (wpAny_updateSeq e2 rfl (wpAny_pure ⟨plainId_quiet PySem.F.plain_extend_loop _, ?_⟩) (by rw [List.size_toArray]; omega) (by show (its2.toArray.push u).size ≤ sizeLine + 1; rw [Array.size_push, List.size_toArray]; omega))
    have I2 := I1.lset (f := (·.push u)) (its' := its2 ++ [u]) (t' := s.toks) upd_same e2 (by simp) (r2.append (.cons ru .nil)) (by rw [List.length_append, List.length_singleton]; omega)
    rw [upd_upd] at I2
    have et : zs.take i ++ [zs[i]] = zs.take (i + 1) := by rw [List.take_succ, List.getElem?_eq_getElem hlt]; rfl
    rw [et] at I2
    exact ih (i + 1) _ (by omega) hlt I2 (st'.at fun o e => (Heap.get?_update_other _ _ (fun h : q = it => hne h.symm)).trans e)
end
def rListO (S : Sg) (K : PySem.W.Frag) (c : Nat) (f : Str) : List V → Hp → VK → Prop := fun xs H Q => ∃ a dx ws l zs, xs = [.ref a] ∧ H a = some (.ins (S.cO c) dx ws) ∧ ws.lookup f = some (.ref l) ∧ SqL K H l zs ∧ ∀ q, H q = none → Q (.ref q) (upd H q (.lst zs))
section
variable {X : Cx} {W : Wd} {S : Sg} {c k : Nat} {f : Str}
theorem ext_listO {pins : List (Addr × Obj)} {σ : L2.St} {H : Hp} {s2 : Shared} {Q : VK} {q a dx l : Addr} {ws : List (Str × V)} {zs : List V} (C : Cc X W S k) (F : IterC W S c f) (nolen : PySem.W.findIn W.K (.ref (S.cO c)) "__len__" = some none) (nohint : PySem.W.findIn W.K (.ref (S.cO c)) "__length_hint__" = some none) (hk : 3 ≤ k)
    (I2 : L2.Inv X pins σ (upd H q (.lst [])) s2) (ha : H a = some (.ins (S.cO c) dx ws)) (ha2 : upd H q (.lst []) a = some (.ins (S.cO c) dx ws)) (hw : ws.lookup f = some (.ref l)) (hz : SqL X.K H l zs) (fr : H q = none) (hQ' : Q (.ref q) (upd H q (.lst zs))) :
    wpAny (model X.prog X.w) X.A.in1.in1 (Builtin.List.listExtendWith (.ref q) (.ref a) .none)
      (fun fin s' => match fin with | .done f => (wants (fun r s₂ => r = .none ∧ EP X pins σ Q (.ref q) s₂) X.xe) (.ok f) s' | .again c' => c'.quiet = true ∧ codeAny (model X.prog X.w) X.A.in1 c' (wants (fun r s₂ => r = .none ∧ EP X pins σ Q (.ref q) s₂) X.xe) s') (fun e s' => (wants (fun r s₂ => r = .none ∧ EP X pins σ Q (.ref q) s₂) X.xe) (.error e) s') s2 := by
  obtain ⟨q0, fd, hs, hf, Fn, hb⟩ := F.ex
  have wd := C.wd
  unfold wdOf at wd
  subst wd
  have sb : Sub X 1 X.A.in1.in1 := (Sub.in1 (Sub.in1 (⟨C.room.mono hk, rfl⟩ : Sub X (1 + 2) X.A)))
  have hne : q ≠ a := fun z => by rw [← z, fr] at ha; cases ha
  obtain ⟨mA, J, _⟩ := ins_get I2.hok ha2
  obtain ⟨od, J, _⟩ := J.look
  obtain ⟨m0, hF⟩ := I2.fr
  unfold Builtin.List.listExtendWith
  refine wpAny_bind (J.type.here ?_)
  have h1 : Builtin.List.listSameRef (.ref q) (.ref a) = false := by simp [Builtin.List.listSameRef, hne]
  have h2 : (Value.ref (S.cO c) == Value.type "list") = false := rfl
  have h3 : (Value.ref (S.cO c) == Value.type "tuple") = false := rfl
  simp only [h1, h2, h3, Bool.or_false, Bool.false_eq_true, if_false]
  refine wpAny_bind (PySem.W.owit_iter hF I2.ok.mod.kin J hs hf ?_)
  have e0 : Env0 X.prog X.w X.K X.mg X.base X.A.in1.in1 X.stack s2 (upd H q (.lst [])) := by
    have e := I2.env0
    exact ⟨by rw [sb.fr]; exact e.frames, e.mod, e.bs, e.bsz, e.funs, e.frf, e.hok, e.bare⟩
  have kx : X.K = S.K := C.kk
  have hz2 := Evl.ex_l (same_upd (o := .lst []) fr) hz
  have hsp : spIter S X.s_0.heap.objs.size c f [.ref a] (upd H q (.lst [])) (fun v H' => ∃ it, (upd H q (.lst [])) it = none ∧ X.s_0.heap.objs.size ≤ it ∧ v = .ref it ∧ H' = upd (upd H q (.lst [])) it (ItO l it 0)) E0 := ⟨a, dx, ws, l, zs, rfl, ha2, hw, by rw [← kx]; exact hz2, fun it h1 h2 => ⟨it, h1, h2, rfl, rfl⟩⟩
  have FB := Fn (padB X.base X.s_0.heap.objs.size)
  rw [pad_size I2.ok.bsz] at FB
  refine wpAny_call (codeAny_mono (FB.run X.A.in1.in1 X.stack s2 _ ⟨[.ref a], []⟩ [.ref a] [.ref a] _ E0 sb.room (env0_pad e0 I2.ok.bsz I2.sz) (by have := hb s2 [.ref a] I2.kIn rfl; simpa using this) (.cons rfl .nil) hsp) fun r s' hq' => ?_)
  cases r with
  | error e => exact passN pins σ _ s2 e s' I2 hq'
  | ok fl =>
    cases fl with
    | next => exact False.elim hq'
    | brk => exact False.elim hq'
    | cont => exact False.elim hq'
    | ret u =>
      obtain ⟨v, H', I', rv, it, hit, hn, rfl, rfl⟩ := I2.after hq'
      cases rv
      have hi2 : (upd (upd H q (.lst [])) it (ItO l it 0)) it = some (ItO l it 0) := upd_same
      have eo := itO_get I' hi2
      have st2 : s'.heap.IsListIter it l 0 := ⟨_, eo, rfl, rfl⟩
      have hT : s'.TypeIs (.ref it) "list_iterator" := ⟨_, eo, rfl⟩
      unfold PySem.W.OwitIt
      refine wpAny_specialOf (name := Str.ofString "__next__") hT slot_listiter_next.lookup ?_
      have I3 := inv_drop I' hi2
      have fp := inv_fp I' hi2 hn
      rw [dropH_upd hit] at I3 fp
      have hne2 : it ≠ q := fun z => by rw [z, upd_same] at hit; cases hit
      have fp' : FpOk X pins H it := by
        obtain ⟨f0, f1, f2, f3, f4, f5⟩ := fp
        exact ⟨by rw [← upd_ne (H := H) (o := .lst []) hne2]; exact f0, f1, f2, f3, f4, f5⟩
      obtain ⟨mA', J', _⟩ := ins_get I3.hok ha2
      obtain ⟨od', J', _⟩ := J'.look
      have hdone : ∀ s, L2.Inv X pins σ (upd H q (.lst zs)) s → (wants (fun r s₂ => r = .none ∧ EP X pins σ Q (.ref q) s₂) X.xe) (.ok (.ret .none)) s := fun s I => ⟨rfl, .ref q, _, I, rfl, hQ'⟩
      have loop : ∀ s, L2.Inv X pins σ (upd H q (.lst [])) s → s.heap.IsListIter it l 0 → codeAny (model X.prog X.w) X.A.in1 (.builtin "list.extend.loop" ⟨[.ref q, .ref it, .none], []⟩) (wants (fun r s₂ => r = .none ∧ EP X pins σ Q (.ref q) s₂) X.xe) s := fun s I st => lit_loop sb hdone fr hz fp' hne2 _ 0 s rfl (Nat.zero_le _) I st
      refine wpAny_bind (wpAny_holding ?_)
      unfold Builtin.List.listLengthHint
      refine wpAny_bind (wpAny_bind (J'.type.here ((PySem.W.looks_findIn I3.kIn nolen).here ?_)))
      refine PySem.W.KFB.if_not rfl ?_
      refine PySem.W.KFB.if_not rfl ?_
      refine wpAny_bind (wpAny_bind (J'.type.here ((PySem.W.looks_findIn I3.kIn nohint).here ?_)))
      refine wpAny_pure ?_
      obtain ⟨z, its, k3, r3, hl3, e3⟩ := I3.lstM (upd_same (H := H) (a := q) (o := .lst []))
      cases r3
      refine wpAny_ite_split (fun _ => ?_) (fun _ => wpAny_pure ⟨plainId_quiet PySem.F.plain_extend_loop _, loop s' I3 st2⟩)
      refine wpAny_bind (wpAny_rule ?_)
      refine wpAny_bind ?_
      show wpAny _ _ (updateSeq q (·.push .none) >>= fun _ => updateSeq q (·.pop)) _ _ _
      refine wpAny_bind (wpAny_updateSeq e3 rfl ?_)
      have I4 := I3.lset (f := (·.push Value.none)) (its' := [Value.none]) (ys := [.non]) (t' := s'.toks) upd_same e3 (by simp) (.cons rfl .nil) (by rw [List.length_singleton, sizeLine_eq]; decide)
      obtain ⟨z4, its4, k4, r4, hl4, e4⟩ := I4.lstM upd_same
      obtain ⟨u4, rfl, ru4⟩ := r4.one
      refine wpAny_updateSeq e4 rfl ?_ (by show 1 ≤ sizeLine; rw [sizeLine_eq]; decide) (by show 0 ≤ sizeLine + 1; exact Nat.zero_le _)
      refine wpAny_pure ⟨plainId_quiet PySem.F.plain_extend_loop _, loop _ ?_ ?_⟩
      · have I5 := I4.lset (f := (·.pop)) (its := [u4]) (its' := []) (ys := []) (t' := s'.toks) upd_same e4 (by rfl) .nil (Nat.zero_le _)
        rw [upd_upd, upd_upd] at I5
        exact I5
      · exact (st2.at fun o e => (Heap.get?_update_other _ _ (fun h : q = it => hne2 h.symm)).trans e).at fun o e => (Heap.get?_update_other _ _ (fun h : q = it => hne2 h.symm)).trans e
theorem call_listO (C : Cc X W S k) (F : IterC W S c f) (nolen : PySem.W.findIn W.K (.ref (S.cO c)) "__len__" = some none) (nohint : PySem.W.findIn W.K (.ref (S.cO c)) "__length_hint__" = some none) (hk : 3 ≤ k) : CallR X (.type "list") (rListO S X.K c f) := by
  intro pins s σ H xs us Q I rv h
  obtain ⟨a, dx, ws, l, zs, rfl, ha, hw, hz, hQ⟩ := h
  obtain ⟨u, rfl, ru⟩ := rv.one
  cases ru
  refine callType_codes (Q₁ := fun obj s₁ => obj = .ref s.heap.objs.size ∧ s₁ = { s with heap := s.heap.push { cls := .type "list", data := .seq #[] } }) PySem.F.called_list (PySem.F.typeCall_list_1 _) PySem.F.entry_list_init
    (code_list_new _ ⟨rfl, rfl⟩) fun obj s₁ h₁ => ?_
  obtain ⟨rfl, rfl⟩ := h₁
  have hS : (s.heap.push { cls := .type "list", data := .seq #[] }).get? s.heap.objs.size = some { cls := .type "list", data := .seq #[] } := Heap.get?_push_size _ rfl
  refine ⟨⟨_, hS, rfl⟩, PySem.F.args_list_init_2 _ _, ?_⟩
  have fr : H s.heap.objs.size = none := I.hok.fresh (Nat.le_refl _)
  have I1 : L2.Inv X pins σ (upd H s.heap.objs.size (.lst [])) { s with heap := s.heap.push { cls := .type "list", data := .seq #[] } } := I.lnew (its := []) (t' := s.toks) .nil (Nat.zero_le _)
  show wpAny _ _ (do let old ← Builtin.List.listItems (.ref s.heap.objs.size); Builtin.List.listUpdate (.ref s.heap.objs.size) (fun _ => #[]); letGo old.toList.reverse; Builtin.List.listExtendWith (.ref s.heap.objs.size) (.ref a) .none) _ _ _
  refine wpAny_bind ?_
  unfold Builtin.List.listItems
  refine wpAny_bind (wpAny_seqItems hS rfl (wpAny_pure ?_))
  show wpAny _ _ (updateSeq s.heap.objs.size (fun _ => #[]) >>= fun _ => letGo (#[] : Array Value).toList.reverse >>= fun _ => Builtin.List.listExtendWith (.ref s.heap.objs.size) (.ref a) .none) _ _ _
  refine wpAny_bind (wpAny_updateSeq hS rfl ?_)
  have I2 := I1.lset (f := fun _ => #[]) (its := []) (its' := []) (ys := []) (t' := s.toks) upd_same hS rfl .nil (Nat.zero_le _)
  rw [upd_upd] at I2
  refine wpAny_bind (wpAny_letGo ?_)
  have ha2 : upd H s.heap.objs.size (.lst []) a = some (.ins (S.cO c) dx ws) := by rw [upd_ne (ne_of_none ha fr)]; exact ha
  have hQ' := hQ _ fr
  exact ext_listO C F nolen nohint hk I2 ha ha2 hw hz fr hQ'
end
section
variable {X : Cx} {W : Wd} {S : Sg} {c k : Nat} {f : Str} {g : En} {e : Expr} {fs : List (Str × D)} {ds : List D} {p pos : Pos}
theorem n_listO (C : Cc X W S k) (F : IterC W S c f) (nolen : PySem.W.findIn W.K (.ref (S.cO c)) "__len__" = some none) (nohint : PySem.W.findIn W.K (.ref (S.cO c)) "__length_hint__" = some none) (hk : 3 ≤ k) (he : Fw.XE X S g e (.obj c fs)) (hl : fs.lookup f = some (.lst ds)) (G : Ng X "list") (hm : X.mg "list" = none)
    (h1 : starEach [e] X.env = (false, eval e X.env) :: starEach [] X.env := by rfl) : XN X S g (.Call (.Name "list" p) [e] [] pos) ds :=
  peI (pe_callTy (call_listO C F nolen nohint hk) G.gl hm PyProof.Rows.Boot.«list» (pa_cons he pa_nil h1) (by decide) G.dbg h1 rfl) fun σ H Q ⟨B, M, st, kk⟩ => ⟨B, M, st, fun v H1 e1 r => by
    cases r with
    | @obj a dx _ ws _ hi rr =>
      obtain ⟨w, hw, rw'⟩ := rr.look hl
      cases rw' with
      | @lst l zs _ hq rs =>
        refine ⟨a, dx, ws, l, zs, rfl, (hid_some hi).2, hw, hid_l (by rw [C.kk]; exact hq), fun q hp => ?_⟩
        exact kk q _ _ (e1.free hp) (e1.trans (same_upd hp)) upd_same (new_list hp rs)⟩
end
end Fw

set_option Elab.async false
set_option linter.all false
set_option maxRecDepth 100000
set_option maxHeartbeats 4000000
namespace L2H
open PySem PySem.Spec PyProof.Rows L2 HotX
section
variable {X : Cx} {CX : CXT} {k : Nat} {C p g a dx : Addr} {fs : List (Str × V)} {f : Str} {fd : FuncData} {ps : List Str} {sp : Sp} {dvs : List V} {ds : List Value} {e : Expr} {pos : Pos} {ta : TE}
theorem in1H {k : Nat} {A : Around} (r : RoomH (k + 1) A) : RoomH k A.in1 := ⟨by have := r.dp; show A.depth + 3 * k + 5 < _; omega, by have := r.un; show A.units + 1 + 16 * k + 200 < _; omega⟩
/-- e.f, a property, an exception being handled -/
theorem getprop_okH {pins : List (Addr × Obj)} {σ : L2.St} {H : Hp} {s : Shared} {Q : VK} {b : Bool} {E' : Value → Shared → Prop} (I : L2.Inv X pins σ H s) (ea : H a = some (.ins C dx fs)) (c : Cls X.K C) (hp : PropOf X.K C f p g)
    (F : FnH X.prog X.w X.K X.mg X.base CX k g fd ps sp) (hr : RoomH (k + 1) X.A) (hc : HotC X) (hb : Binds X.K fd ps []) (hx : Passes CX X.nox E0) (h : sp [.ref a] H Q E0) :
    wpAny (model X.prog X.w) X.A (getAttr (.ref a) f b) (EP X pins σ Q) E' s := by
  obtain ⟨mA, O, _, _, _, _⟩ := ins_get I.hok ea
  obtain ⟨od, J, _⟩ := O.look
  obtain ⟨rest, hrec⟩ := hp.rec_
  obtain ⟨x, hot, hpn⟩ := hc
  have I1 := I.tok (s.toks + 1)
  have hl : ([Value.ref a] ++ []).length = ps.length := by
    rw [← F.len _ _ _ _ h]
    rfl
  have hcl : (PySem.W.clsIn X.K C).isSome = true := by
    obtain ⟨cd, hc, _⟩ := PySem.W.any_some c.hd
    rw [hc]
    rfl
  have P1 := I1.pin x (List.mem_append_left _ hpn)
  have hpin : PinOk X.stack H { s with toks := s.toks + 1 } x := ⟨P1.1, P1.2.1, fun hm => (List.mem_cons.mp (I1.stkSub x.1 hm)).elim P1.2.2.1 P1.2.2.2.1, P1.2.2.2.2⟩
  refine PySem.W.get_bind I.kIn J (PySem.W.plainGet_of (c.get f)).1 (PySem.W.findObj_data hcl hp.at_ hp.get hp.tak) (PySem.W.plainGet_of (c.get f)).2 (wpAny_call (PySem.W.prop_get (s := { s with toks := s.toks + 1 }) I.kIn hrec ?_))
  refine codeAny_mono (F.run X.A.in1 X.stack { s with toks := s.toks + 1 } H ⟨[.ref a], []⟩ [.ref a] [.ref a] Q E0 x (in1H hr) hot hpin I1.env0.in1 (hb _ [.ref a] I1.kIn hl) (.cons rfl .nil) h) fun r s' hq => ?_
  cases r with
  | error er => exact False.elim (hx pins σ H { s with toks := s.toks + 1 } er s' (I1.wish _) hq)
  | ok fl =>
    cases fl with
    | ret u =>
      obtain ⟨v, H', I3, rv, q3⟩ := I1.after hq
      show wpAny _ _ (handedOut u) _ _ _
      rw [PySem.W.handedOut_of (handed_of rv)]
      exact wpAny_pure ⟨v, H', I3, rv, q3⟩
    | next => exact False.elim hq
    | brk => exact False.elim hq
    | cont => exact False.elim hq
theorem pe_propH (he : PE X e ta) (c : Cls X.K C) (hp : PropOf X.K C f p g) (F : FnH X.prog X.w X.K X.mg X.base CX k g fd ps sp) (hr : RoomH (k + 1) X.A) (hc : HotC X) (hb : Binds X.K fd ps []) (hx : Passes CX X.nox E0)
    (hab : attributeBase e f X.env (eval e X.env) = eval e X.env) : PE X (.Attribute e f pos) (tProp C sp [] E0 ta) := by
  refine ⟨fun pins s σ H Q I h => ?_⟩
  refine attr_of hab (thn (he.run pins s σ H _ I h) fun u s1 ⟨x, H1, I1, rx, a, dx, fs, ex, ea, q⟩ => ?_)
  subst ex
  obtain rfl : u = Value.ref a := rx
  exact getprop_okH I1 ea c hp F hr hc hb hx q
end
end L2H
namespace Fw
open PySem L2 PyProof.Rows
structure PropOH (W : Wd) (S : Sg) (c : Nat) (f : Str) (k : Nat) (R : List D → Out → Prop) : Prop where
  ex : ∃ p q fd ps, PropOf W.K (S.cO c) f p q ∧ L2H.FnH W.P W.w W.K W.mg W.base (L2N.CX W.P W.w) k q fd ps (spOf S ps.length R) ∧ ps.length = 1 ∧ Binds W.K fd ps []
section
variable {X : Cx} {W : Wd} {S : Sg} {g : En} {e : Expr} {f x : Str} {fns : List Str} {k j c : Nat} {d : D} {fs : List (Str × D)} {pos : Pos} {R : List D → Out → Prop}
/-- o.f, a property, an exception being handled -/
theorem e_opropH (C : Hc X W S k) (OC : ObC W S c x fns) (F : PropOH W S c f j R) (he : Fw.XE X S g e (.obj c fs)) (hR : R [.obj c fs] (.ok d)) (hj : j + 1 ≤ k := by decide) (hb : attributeBase e f X.env (eval e X.env) = eval e X.env := by rfl) : Fw.XE X S g (.Attribute e f pos) d := by
  obtain ⟨p, q, fd, ps, hp, F1, hl, hbi⟩ := F.ex
  have hcl := OC.cls
  obtain ⟨⟨w1, w2, c3, c4⟩, c1, c2⟩ := C
  subst w1
  refine peI (L2H.pe_propH he hcl hp F1 (c2.mono hj) c1 hbi passN hb) fun σ H Q ⟨B, M, st, kk⟩ => ⟨B, M, st, fun v H1 e1 r => ?_⟩
  have r0 := r
  cases r with
  | obj h rr =>
    refine ⟨_, _, _, rfl, (hid_some h).2, ?_⟩
    exact ⟨by rw [hl]; rfl, M, [.obj c fs], _, (st.mono e1).trk, .cons r0 .nil, hR, fun v H2 e2 r2 => kk v H2 (e1.trans e2) r2⟩
/-- a comprehension's kept items -/
theorem resL_filter {b : Nat → Bool} {dd : Nat → D} : ∀ n, resL b dd n = ((List.range n).filter b).map dd
  | 0 => rfl
  | n + 1 => by
    unfold resL
    rw [List.range_succ, List.filter_append, List.map_append, resL_filter n]
    by_cases h : b n = true
    · rw [if_pos h]
      simp [h]
    · rw [if_neg h]
      simp [h]
theorem resL_filterL {α : Type} {l : List α} {z : α} {p : α → Bool} {f : α → D} : resL (fun i => p (l.getD i z)) (fun i => f (l.getD i z)) l.length = (l.filter p).map f := by
  rw [resL_filter]
  have e : l = (List.range l.length).map fun i => l.getD i z := by
    apply List.ext_getElem
    · simp
    · intro i h1 h2
      rw [List.getElem_map, List.getElem_range, List.getD_eq_getElem?_getD, List.getElem?_eq_getElem h1]
      rfl
  conv => rhs; rw [e]
  rw [List.filter_map, List.map_map]
  rfl
end
end Fw

set_option Elab.async false
set_option linter.all false
set_option maxRecDepth 100000
set_option maxHeartbeats 4000000
namespace Fw
open PySem L2 PyProof.Rows
section
variable {X : Cx} {W : Wd} {S : Sg} {k : Nat}
/-- d in a list, by data -/
theorem c_inD {d1 : D} {ds : List D} (C : Kb X W S) (hu : X.A.units + 65 < cLine) (f1 : flat d1 = true) (f2 : flat (.lst ds) = true) (s1 : SeqAt.shaped (pdOf d1) = true) (s2 : SeqAt.shaped (.list (pdsOf ds)) = true) : BinD X S (compareOp .In) d1 (.lst ds) (.bl ((pdsOf ds).any fun z => PyData.eqv z (pdOf d1))) := by
  intro pins s σ H v w u z Q I rx ry ⟨M, _, q, K⟩
  obtain ⟨x', y', e, q1, q2⟩ := q.two
  cases e
  have h1 := dp_mono hid_le (dp_of q1 f1)
  have h2 := dp_mono hid_le (dp_of q2 f2)
  rw [← C.kk] at h1 h2
  exact op_inD hu pins s σ H _ _ u z Q I rx ry ⟨_, _, h1, h2, s1, s2, K _ H (Same.refl H) (.bl _)⟩
end
end Fw

set_option Elab.async false
set_option linter.all false
set_option maxRecDepth 100000
set_option maxHeartbeats 4000000
/-! sorted of triples of whole numbers -/
namespace Fw
open PySem L2 PySem.Spec PyProof.Rows
abbrev PI3 := Int × Int × Int
abbrev tripD (p : PI3) : D := .tup [.int p.1, .int p.2.1, .int p.2.2]
def lexT (p q : PI3) : Bool := if p.1 = q.1 then (if p.2.1 = q.2.1 then decide (p.2.2 < q.2.2) else decide (p.2.1 < q.2.1)) else decide (p.1 < q.1)
theorem lexT_iff {p q : PI3} : lexT p q = true ↔ p.1 < q.1 ∨ (p.1 = q.1 ∧ (p.2.1 < q.2.1 ∨ (p.2.1 = q.2.1 ∧ p.2.2 < q.2.2))) := by
  unfold lexT
  split
  · split
    · rw [decide_eq_true_eq]; omega
    · rw [decide_eq_true_eq]; omega
  · rw [decide_eq_true_eq]; omega
theorem lexT_no {p q : PI3} : lexT p q = false ↔ ¬ (p.1 < q.1 ∨ (p.1 = q.1 ∧ (p.2.1 < q.2.1 ∨ (p.2.1 = q.2.1 ∧ p.2.2 < q.2.2)))) := by
  rw [← lexT_iff]
  cases lexT p q <;> simp
theorem swo_lexT {α : Type} (k : α → PI3) : SrtO.Swo fun v u => lexT (k v) (k u) := by
  refine ⟨fun x y h => ?_, fun x y z h1 h2 => ?_⟩
  · have a := lexT_iff.mp h
    refine lexT_no.mpr ?_
    omega
  · have a := lexT_no.mp h1
    have b := lexT_no.mp h2
    refine lexT_no.mpr ?_
    omega
def IsTrip (h : Heap) (v : Value) (p : PI3) : Prop := ∃ a o t u w n, v = .ref a ∧ h.get? a = some o ∧ o.cls = .type "tuple" ∧ o.data = .seq #[.int p.1 t, .int p.2.1 u, .int p.2.2 w] n
theorem IsTrip.keeps {h h' : Heap} {v : Value} {p : PI3} (q : IsTrip h v p) (k : ∀ b o, h.get? b = some o → o.cls = .type "tuple" → h'.get? b = some o) : IsTrip h' v p := by
  obtain ⟨a, o, t, u, w, n, e, ho, hc, hd⟩ := q
  exact ⟨a, o, t, u, w, n, e, k _ _ ho hc, hc, hd⟩
theorem firsts3 {h : Heap} : ∀ {vs : List Value}, (∀ v ∈ vs, ∃ p, IsTrip h v p) → ∃ fs : List Value, PySem.W.KatTups h vs fs ∧ fs.length = vs.length ∧ ∀ f ∈ fs, ∃ x t, f = Value.int x t
  | [], _ => ⟨[], PySem.W.KatTups.nil, rfl, fun _ hm => by simp at hm⟩
  | v :: vs, hp => by
    obtain ⟨fs, h1, h2, h3⟩ := firsts3 (vs := vs) fun v' hm => hp v' (List.mem_cons_of_mem _ hm)
    obtain ⟨p, a, o, t, u, w, n, e, ho, hc, hd⟩ := hp v (List.mem_cons_self ..)
    subst e
    refine ⟨.int p.1 t :: fs, PySem.W.KatTups.cons ho hc hd rfl h1, by rw [List.length_cons, List.length_cons, h2], fun f hm => ?_⟩
    rcases List.mem_cons.mp hm with rfl | hm
    · exact ⟨p.1, t, rfl⟩
    · exact h3 f hm
section
variable {prog : Program} {w : World} {A : Around} {E : Value → Shared → Prop} {s : Shared}
open SrtO Srt
theorem trip_cmp {vs : List Value} {k : Value → PI3} (hp : ∀ v ∈ vs, IsTrip s.heap v (k v)) : Cmp prog w A s (tuples' true) (fun p => p.1 ∈ vs) (lt2 fun v u => lexT (k v) (k u)) := by
  intro p q hm hm'
  have h1 := hp _ hm
  have h2 := hp _ hm'
  show wpAny (model prog w) A (keyLt' (tuples' true) p.1 q.1) (fun r s' => s' = s ∧ r = lexT (k p.1) (k q.1)) (fun _ _ => False) s
  unfold lexT
  generalize k p.1 = kp at h1 ⊢
  generalize k q.1 = kq at h2 ⊢
  obtain ⟨x, y, z⟩ := kp
  obtain ⟨x', y', z'⟩ := kq
  obtain ⟨a, o, t, u, v, n, e, ho, hc, hd⟩ := h1
  obtain ⟨a', o', t', u', v', n', e', ho', hc', hd'⟩ := h2
  dsimp only at hd hd' ⊢
  rw [e, e']
  refine PySem.W.kat_lt ho hd ho' hd' ?_
  show PySem.W.KatLex prog w A true (decide (3 < 3)) _ [(.int x t, .int x' t'), (.int y u, .int y' u'), (.int z v, .int z' v')] 0 s
  refine PySem.W.kat_cons (SeqAt.EqAt.int_int x t x' t' prog w _ _ ?_)
  refine PySem.W.kat_go (fun e1 => ?_) (fun e1 => ?_)
  · have ex : x = x' := by simpa using e1
    rw [if_pos ex]
    refine PySem.W.kat_yes (PySem.W.kat_cons (SeqAt.EqAt.int_int y u y' u' prog w _ _ ?_))
    refine PySem.W.kat_go (fun e2 => ?_) (fun e2 => ?_)
    · have ey : y = y' := by simpa using e2
      rw [if_pos ey]
      refine PySem.W.kat_yes (PySem.W.kat_cons (SeqAt.EqAt.int_int z v z' v' prog w _ _ ?_))
      refine PySem.W.kat_go (fun e3 => ?_) (fun e3 => ?_)
      · have ez : z = z' := by simpa using e3
        have e4 : decide (z < z') = false := by
          rw [ez]
          exact decide_eq_false (Int.lt_irrefl _)
        rw [e4]
        exact PySem.W.kat_yes (PySem.W.kat_nil ⟨rfl, rfl⟩)
      · exact PySem.W.kat_no (PySem.W.kat_one _ _ (PyProof.Rows.lt_int (show s = s ∧ decide (z < z') = decide (z < z') from ⟨rfl, rfl⟩)))
    · have ey : ¬ y = y' := by simpa using e2
      rw [if_neg ey]
      exact PySem.W.kat_no (PySem.W.kat_one _ _ (PyProof.Rows.lt_int (show s = s ∧ decide (y < y') = decide (y < y') from ⟨rfl, rfl⟩)))
  · have ex : ¬ x = x' := by simpa using e1
    rw [if_neg ex]
    exact PySem.W.kat_no (oneLt_int ⟨rfl, rfl⟩)
theorem trips_sortableO {a : Addr} {vs : List Value} {k : Value → PI3} (h0 : 0 < vs.length) (hp : ∀ v ∈ vs, IsTrip s.heap v (k v)) (ha : ∀ o, s.heap.get? a = some o → o.cls ≠ .type "tuple") : SortableO prog w A s a vs fun v u => lexT (k v) (k u) := by
  intro h' keep
  have hp' : ∀ v ∈ vs, IsTrip h' v (k v) := fun v hm => (hp v hm).keeps fun b o e c => keep b o (fun z => by subst z; exact ha o e c) e
  obtain ⟨fs, h1, h2, h3⟩ := firsts3 fun v hm => ⟨_, hp' v hm⟩
  refine ⟨tuples' true, fun Q E hq => ?_, trip_cmp hp'⟩
  refine PySem.W.kat_kind (T := .type "int") h1 (by omega) (fun f hm => ?_) (by rfl) ?_
  · obtain ⟨x, t, rfl⟩ := h3 f hm
    exact PySem.W.Looks.now
  · have e : (Value.type "int" != Value.type "tuple") = true := by first | decide +kernel | rfl | decide
    rw [e]
    exact hq
theorem sorted_tripsO {l : Addr} {vs : List Value} {k : Value → PI3} {Q : Value → Shared → Prop} (hl : s.heap.IsList l vs.toArray) (hz : vs.length ≤ sizeLine) (hp : ∀ v ∈ vs, IsTrip s.heap v (k v))
    (h : ∀ (h' : Heap) (d : Addr) (out : List Value), Srtd (fun v u => lexT (k v) (k u)) out → Stb (fun v u => lexT (k v) (k u)) out vs → (∀ b o, s.heap.get? b = some o → h'.get? b = some o) → s.heap.objs.size ≤ d → (∃ n, h'.get? d = some (seqObj "list" out.toArray n)) → Q (.ref d) { s with heap := h' }) :
    wpAny (model prog w) A (call (.builtin "sorted") [.ref l]) Q E s := by
  refine sorted_ord (swo_lexT k) hl hz (fun h2 h₁ a ha kk => ?_) fun out hs hb => ?_
  · refine trips_sortableO (s := { s with heap := h₁ }) (by omega) (fun v hm => (hp v hm).keeps fun b o e _ => (kk b o e).2) fun o e => ?_
    have e' : some o = some (seqObj "list" vs.toArray 0) := e.symm.trans ha
    cases e'
    intro c
    exact absurd (Value.type.inj c) (by decide)
  · exact h _ _ out hs hb (fun b o e => sortedAll_old e) (Nat.le_succ _) (sortedAll_at s.heap vs out.toArray)
end
theorem perm_lift {α β : Type} {f : α → β} : ∀ {l m : List β}, l.Perm m → ∀ ks : List α, m = ks.map f → ∃ ks' : List α, ks'.Perm ks ∧ ks'.map f = l := by
  intro l m h
  induction h with
  | nil =>
    intro ks e
    cases ks with
    | nil => exact ⟨[], .refl _, rfl⟩
    | cons k ks => exact nomatch e
  | cons x h ih =>
    intro ks e
    cases ks with
    | nil => exact nomatch e
    | cons k ks =>
      rw [List.map_cons] at e
      injection e with e1 e2
      obtain ⟨ks', p, e'⟩ := ih ks e2
      exact ⟨k :: ks', p.cons k, by rw [List.map_cons, e1, e']⟩
  | swap x y l =>
    intro ks e
    match ks, e with
    | a :: b :: ks, e =>
      rw [List.map_cons, List.map_cons] at e
      injection e with e1 e2
      injection e2 with e2 e3
      exact ⟨b :: a :: ks, .swap _ _ _, by rw [List.map_cons, List.map_cons, ← e1, ← e2, ← e3]⟩
  | trans h1 h2 i1 i2 =>
    intro ks e
    obtain ⟨k2, p2, e2⟩ := i2 ks e
    obtain ⟨k1, p1, e1⟩ := i1 k2 e2.symm
    exact ⟨k1, p1.trans p2, e1⟩
/-- two sorted lists of the same triples are one -/
theorem trips_uniq : ∀ {l m : List PI3}, l.Pairwise (fun p q => lexT q p = false) → m.Pairwise (fun p q => lexT q p = false) → l.Perm m → l = m
  | [], m, _, _, h => (List.Perm.eq_nil h.symm).symm
  | x :: l, [], _, _, h => absurd h.length_eq (by simp)
  | x :: l, y :: m, hl, hm, h => by
    have ref : ∀ z : PI3, lexT z z = false := fun z => lexT_no.mpr (by omega)
    have h1 : lexT x y = false := by
      rcases List.mem_cons.mp (h.mem_iff.mp (List.mem_cons_self (a := x) (l := l))) with e | hx
      · rw [e]; exact ref y
      · exact (List.pairwise_cons.mp hm).1 x hx
    have h2 : lexT y x = false := by
      rcases List.mem_cons.mp (h.mem_iff.mpr (List.mem_cons_self (a := y) (l := m))) with e | hy
      · rw [e]; exact ref x
      · exact (List.pairwise_cons.mp hl).1 y hy
    have a := lexT_no.mp h1
    have b := lexT_no.mp h2
    have e : x = y := Prod.ext (by omega) (Prod.ext (by omega) (by omega))
    subst e
    rw [trips_uniq (List.pairwise_cons.mp hl).2 (List.pairwise_cons.mp hm).2 h.cons_inv]
theorem vals_refs3 : ∀ {ks : List (Addr × PI3)} {us : List Value}, Vals (ks.map fun p => V.ref p.1) us → us = ks.map fun p => Value.ref p.1
  | [], _, .nil => rfl
  | k :: ks, _, .cons r t => by
    cases r
    rw [List.map_cons, ← vals_refs3 t]
theorem refs3_vals : ∀ {ks : List (Addr × PI3)}, Vals (ks.map fun p => V.ref p.1) (ks.map fun p => Value.ref p.1)
  | [] => .nil
  | k :: ks => .cons rfl refs3_vals
/-- sorted(xs) of triples -/
def rSortT (K : PySem.W.Frag) : List V → Hp → VK → Prop := fun vs H Q => ∃ (a : Addr) (ks : List (Addr × PI3)), vs = [V.ref a] ∧ SqL K H a (ks.map fun p => V.ref p.1) ∧ (∀ p ∈ ks, SqT K H p.1 [.int p.2.1, .int p.2.2.1, .int p.2.2.2]) ∧
  ∀ (ks' : List (Addr × PI3)) (p : Addr), ks'.Perm ks → (ks'.map (·.2)).Pairwise (fun x y => lexT y x = false) → H p = none → Q (.ref p) (upd H p (.lst (ks'.map fun p => V.ref p.1)))
theorem cr_sortT {X : Cx} : CallR X (.builtin "sorted") (rSortT X.K) := by
  intro pins s σ H vs us Q I r h
  obtain ⟨a, ks, rfl, hs, hx, q⟩ := h
  obtain ⟨its, rv, hl, hz⟩ := I.list hs
  obtain ⟨u, rfl, ru⟩ := vals1 r
  obtain rfl : u = Value.ref a := ru
  have eits : its = ks.map fun p => Value.ref p.1 := vals_refs3 rv
  have inj : ∀ p ∈ ks, ∀ r ∈ ks, p.1 = r.1 → p.2 = r.2 := fun p hp r hr e => by
    have a1 := hx p hp
    have a2 := hx r hr
    rw [e] at a1
    have := I.tuple_inj a1 a2
    injection this with e1 this
    injection this with e2 this
    injection this with e3 _
    injection e1 with e1
    injection e2 with e2
    injection e3 with e3
    exact Prod.ext e1 (Prod.ext e2 e3)
  let kv : Value → PI3 := fun v => Classical.epsilon fun z => ∃ p ∈ ks, v = Value.ref p.1 ∧ z = p.2
  have hkv : ∀ p ∈ ks, kv (Value.ref p.1) = p.2 := fun p hp => by
    obtain ⟨r, hr, e, ez⟩ := Classical.epsilon_spec (p := fun z => ∃ r ∈ ks, Value.ref p.1 = Value.ref r.1 ∧ z = r.2) ⟨p.2, p, hp, rfl, rfl⟩
    show Classical.epsilon (fun z => ∃ r ∈ ks, Value.ref p.1 = Value.ref r.1 ∧ z = r.2) = p.2
    rw [ez]
    exact inj r hr p hp (by injection e with e; exact e.symm)
  refine sorted_tripsO (k := kv) hl.isList (by rw [← rv.length]; exact hz) (fun v hv => ?_) fun h' d out h1 h2 kp hd hn => ?_
  · rw [eits] at hv
    obtain ⟨p, hp, rfl⟩ := List.mem_map.mp hv
    rw [hkv p hp]
    obtain ⟨its2, r2, ⟨o, ho, hc, n, hd⟩, _⟩ := I.tuple (hx p hp)
    obtain ⟨u1, its3, rfl, ⟨t1, rfl⟩, r3⟩ : ∃ u us, its2 = u :: us ∧ RelV (.int p.2.1) u ∧ Vals [.int p.2.2.1, .int p.2.2.2] us := by cases r2 with | cons a b => exact ⟨_, _, rfl, a, b⟩
    obtain ⟨u2, u3, rfl, ⟨t2, rfl⟩, ⟨t3, rfl⟩⟩ := vals2 r3
    exact ⟨p.1, o, t1, t2, t3, n, rfl, ho, hc, hd⟩
  · obtain ⟨ks', pm, eo⟩ := perm_lift h2.perm ks eits
    obtain ⟨n, hn⟩ := hn
    refine ⟨.ref d, upd H d (.lst (ks'.map fun p => V.ref p.1)), I.laid (t' := s.toks) kp hd ⟨?_, out, n, ?_, hn⟩, rfl, q ks' d pm ?_ (I.hok.fresh hd)⟩
    · rw [List.length_map, pm.length_eq]
      rw [List.length_map] at hz
      exact hz
    · rw [← eo]
      exact refs3_vals
    · rw [← eo] at h1
      rw [List.pairwise_map]
      refine (List.pairwise_map.mp h1).imp_of_mem fun {x y} hx hy z => ?_
      have z : lexT (kv (Value.ref y.1)) (kv (Value.ref x.1)) = false := z
      rw [hkv x (pm.mem_iff.mp hx), hkv y (pm.mem_iff.mp hy)] at z
      exact z
theorem reps_trips {S : Sg} {H : Hp} : ∀ {vs : List V} {ps : List PI3}, Reps S H vs (ps.map tripD) → ∃ ks : List (Addr × PI3), vs = ks.map (fun p => V.ref p.1) ∧ ks.map (·.2) = ps ∧ ∀ p ∈ ks, SqT S.K H p.1 [.int p.2.1, .int p.2.2.1, .int p.2.2.2]
  | _, [], .nil => ⟨[], rfl, rfl, fun p h => nomatch h⟩
  | v :: vs, p :: ps, .cons h t => by
    obtain ⟨ks, e1, e2, e3⟩ := reps_trips t
    unfold tripD at h
    cases h with
    | @tup a ws ds hq rr =>
      cases rr with
      | cons q1 rr =>
        cases rr with
        | cons q2 rr =>
          cases rr with
          | cons q3 rr =>
            cases rr
            cases q1
            cases q2
            cases q3
            exact ⟨(a, p) :: ks, by rw [List.map_cons, e1], by rw [List.map_cons, e2], fun r hr => (List.mem_cons.mp hr).elim (fun z => by rw [z]; exact hq) (e3 r)⟩
theorem trips_reps {S : Sg} {H : Hp} : ∀ {ks : List (Addr × PI3)}, (∀ p ∈ ks, SqT S.K H p.1 [.int p.2.1, .int p.2.2.1, .int p.2.2.2]) → Reps S H (ks.map fun p => V.ref p.1) ((ks.map (·.2)).map tripD)
  | [], _ => .nil
  | k :: ks, h => .cons (.tup (h k List.mem_cons_self) (.cons (.int _) (.cons (.int _) (.cons (.int _) .nil)))) (trips_reps fun q hq => h q (List.mem_cons_of_mem _ hq))
section
variable {X : Cx} {W : Wd} {S : Sg} {k : Nat} {g : En} {e : Expr} {ls m : List PI3} {pos p1 : Pos}
/-- sorted(xs) of triples: m, any sorted list of them -/
theorem n_sortT (C : Kb X W S) (he : Fw.XE X S g e (.lst (ls.map tripD))) (Gs : Ng X "sorted") (ms : X.mg "sorted" = none) (hm : m.Perm ls) (ho : m.Pairwise fun p q => lexT q p = false) (h2 : starEach [e] X.env = (false, eval e X.env) :: starEach [] X.env := by rfl) :
    XN X S g (.Call (.Name "sorted" p1) [e] [] pos) (m.map tripD) :=
  peI (pe_callB cr_sortT Gs.gl ms PyProof.Rows.Boot.«sorted» (pa_cons he pa_nil h2) (by decide) Gs.dbg h2 rfl) fun σ H Q ⟨B, M, st, kk⟩ => ⟨B, M, st, fun v H1 e1 r => by
    obtain ⟨l, vs, rfl, hq, rr⟩ := lst_of r
    obtain ⟨ks, rfl, e2, e3⟩ := reps_trips rr
    refine ⟨l, ks, rfl, hid_l (by rw [C.kk]; exact hq), fun p hp => hid_t (by rw [C.kk]; exact e3 p hp), fun ks' p pm pw hp => ?_⟩
    have em : ks'.map (·.2) = m := trips_uniq pw ho (((pm.map _).trans (by rw [e2])).trans hm.symm)
    have s2 : Same H1 (upd H1 p (.lst (ks'.map fun q => V.ref q.1))) := same_upd hp
    refine kk p _ _ (e1.free hp) (e1.trans s2) upd_same (new_list hp ?_)
    rw [← em]
    exact trips_reps fun q hq => e3 q (pm.mem_iff.mp hq)⟩
end
end Fw

set_option Elab.async false
set_option linter.all false
set_option maxRecDepth 100000
set_option maxHeartbeats 4000000
/-! zip of two lists; list(range(a, b)) -/
namespace Fw
open PySem L2 PySem.Spec PyProof.Rows
section
variable {X : Cx} {W : Wd} {S : Sg} {k n : Nat} {g : En} {e e2 : Expr} {ds es : List D} {i j : Int} {pos p p2 pos2 : Pos}
theorem walks_zip {a b : Addr} {vs ws : List V} (hl : es.length = ds.length) : Walks S (Itz S.K a b) (fun H => (SqL S.K H a vs ∧ Reps S H vs ds) ∧ SqL S.K H b ws ∧ Reps S H ws es) ds.length (fun i => .tup [itOf ds i, itOf es i]) where
  mono := fun H H' e ⟨⟨h1, h2⟩, h3, h4⟩ => ⟨⟨Evl.ex_l e h1, h2.mono e⟩, Evl.ex_l e h3, h4.mono e⟩
  go := fun M i H ⟨⟨h1, h2⟩, h3, h4⟩ hi => by
    have hv : i < vs.length := by rw [h2.length]; exact hi
    have hw : i < ws.length := by rw [h4.length, hl]; exact hi
    exact ⟨vs, ws, vs[i], ws[i], hid_l h1, hid_l h3, List.getElem?_eq_getElem hv, List.getElem?_eq_getElem hw⟩
  stop := fun M i H ⟨⟨h1, h2⟩, h3, h4⟩ hi => ⟨vs, ws, hid_l h1, hid_l h3, .inl (by rw [h2.length]; exact hi)⟩
  yld := fun M i H x H' tr ⟨⟨h1, h2⟩, h3, h4⟩ hi ⟨T, y, z, e1, e2, e3, e4, e5⟩ => by
    subst e1
    subst e3
    obtain ⟨v, hv, r⟩ := h2.get (itOf_get hi)
    obtain ⟨u, hu, r'⟩ := h4.get (itOf_get (show i < es.length by rw [hl]; exact hi))
    rw [e4 vs (hid_l h1)] at hv
    rw [e5 ws (hid_l h3)] at hu
    cases hv
    cases hu
    have nT : T ∉ M := fun z => tr T z e2
    exact ⟨same_upd e2, .tup (SqT.of (hid_of nT upd_same)) (.cons (r.mono (hid_same (same_upd e2))) (.cons (r'.mono (hid_same (same_upd e2))) .nil))⟩
theorem i_zip {elts : List Expr} {z : Nat} {tpos : Pos} (C : Kb X W S) (G : Ng X "zip") (hm : X.mg "zip" = none) (ha : XA X S g [e, e2] [.lst ds, .lst es]) (hl : es.length = ds.length) (hs : starEach [e, e2] X.env = (false, eval e X.env) :: starEach [e2] X.env := by rfl) (hpl : (backTo pos (starEach [e2] X.env)).any (·.1) = false := by rfl) :
    XI X S g (.Tuple elts z tpos) (.Call (.Name "zip" p) [e, e2] [] pos) ds.length (fun i => .tup [itOf ds i, itOf es i]) :=
  piI (pi_zip G.gl hm ha hs hpl) fun σ H R ⟨B, M, st, kk⟩ => ⟨B, M, st, fun vs H1 e1 r => by
    obtain ⟨x, y, e, q, q'⟩ := r.two
    cases e
    cases q with
    | lst hq rr =>
      cases q' with
      | lst hq2 rr2 =>
        have h1 := hq
        have h2 := hq2
        rw [← C.kk] at h1 h2
        refine ⟨_, _, _, _, rfl, hid_l h1, hid_l h2, ?_⟩
        rw [C.kk]
        exact kk _ _ H1 e1 (walks_zip hl) ⟨⟨hq, rr⟩, hq2, rr2⟩⟩
/-- a .. a + n - 1 -/
def rgL (a : Int) (n : Nat) : List Int := (List.range n).map fun i => a + (i : Nat)
theorem n_listR (C : Cc X W S k) (G : Ng X "list") (hm : X.mg "list" = none) (G2 : Ng X "range") (hm2 : X.mg "range" = none) (h1 : Fw.XE X S g e (.int i)) (h2 : Fw.XE X S g e2 (.int j)) (hb : RgOk i j)
    (na : starEach [e, e2] X.env = (false, eval e X.env) :: starEach [e2] X.env := by rfl) (nb : starEach [e2] X.env = (false, eval e2 X.env) :: starEach [] X.env := by rfl) (hp : (backTo pos2 (starEach [e2] X.env)).any (·.1) = false := by rfl)
    (nc : starEach [.Call (.Name "range" p2) [e, e2] [] pos2] X.env = (false, eval (.Call (.Name "range" p2) [e, e2] [] pos2) X.env) :: starEach [] X.env := by rfl) :
    XN X S g (.Call (.Name "list" p) [.Call (.Name "range" p2) [e, e2] [] pos2] [] pos) ((rgL i (j - i).toNat).map D.int) :=
  peI (pe_listRg C.calm G.gl hm (prg_2 G2.gl hm2 h1 h2 na nb hp) nc) fun σ H Q ⟨B, M, st, kk⟩ => ⟨B, M, st, fun v H1 e1 r => ⟨B, M, st.mono e1, fun v2 H2 e2 r2 => by
    cases r
    cases r2
    refine ⟨i, j, rfl, rfl, hb, fun q hq => ?_⟩
    refine kk q _ _ ((e1.trans e2).free hq) ((e1.trans e2).trans (same_upd hq)) upd_same (new_list hq ?_)
    unfold rgV rgL
    rw [List.map_map]
    generalize List.range (j - i).toNat = l
    induction l with
    | nil => exact .nil
    | cons x l ih => exact .cons (.int _) ih⟩⟩
end
end Fw

set_option Elab.async false
set_option linter.all false
set_option maxRecDepth 100000
set_option maxHeartbeats 4000000
namespace Fw
open PySem L2 PyProof.Rows
/-! ### a list of one's own whose items are tuples, looked at by a value whose lists hold points -/
mutual
/-- every list in it is empty or begins with a point -/
def ptsD : D → Bool
  | .lst [] => true
  | .lst (.pt _ _ _ :: r) => ptsDs r
  | .lst _ => false
  | .tup xs => ptsDs xs
  | .obj _ fs => ptsF fs
  | _ => true
def ptsDs : List D → Bool
  | [] => true
  | d :: ds => ptsD d && ptsDs ds
def ptsF : List (Str × D) → Bool
  | [] => true
  | d :: ds => ptsD d.2 && ptsF ds
end
theorem ptsD_map {l : List D} (h : ∀ d ∈ l, ∃ x y o, d = .pt x y o) : ptsDs l = true := by
  induction l with
  | nil => rfl
  | cons d l ih =>
    obtain ⟨x, y, o, rfl⟩ := h d List.mem_cons_self
    show (true && ptsDs l) = true
    rw [Bool.true_and]
    exact ih fun d hd => h d (List.mem_cons_of_mem _ hd)
theorem ptsD_lst {l : List D} (h : ∀ d ∈ l, ∃ x y o, d = .pt x y o) : ptsD (.lst l) = true := by
  cases l with
  | nil => rfl
  | cons d l =>
    obtain ⟨x, y, o, rfl⟩ := h d List.mem_cons_self
    exact ptsD_map fun d hd => h d (List.mem_cons_of_mem _ hd)
section
variable {S : Sg} {H : Hp} {M : List Addr} {l : Addr} {xs : List V} {v0 : V} {ts : List D}
theorem pt_tup (hk : ∀ a o, S.K.lookup a = some o → H a = none) {v : V} {x y o : Int} {M' : List Addr} (r1 : Rep S (hid M H) v (.pt x y o)) (r2 : Rep S (hid M' H) v (.tup ts)) : False := by
  cases r1 with
  | pt h hx hy ho =>
    cases r2 with
    | tup h2 r =>
      rcases h2 with (z | ⟨o', z⟩) | ⟨o', its, n, hk2, _⟩
      · have := (hid_some z).2
        rcases h with ⟨h, _⟩ | ⟨h, _⟩
        · rw [(hid_some h).2] at this; cases this
        · rw [(hid_some h).2] at this; unfold SlX.SlO at this; cases this
      · have := (hid_some z).2
        rcases h with ⟨h, _⟩ | ⟨h, _⟩
        · rw [(hid_some h).2] at this; cases this
        · rw [(hid_some h).2] at this; unfold SlX.SlO at this; cases this
      · have := hk _ _ hk2
        rcases h with ⟨h, _⟩ | ⟨h, _⟩
        · rw [(hid_some h).2] at this; cases this
        · rw [(hid_some h).2] at this; cases this
theorem lst_hid {b : Addr} {ys : List V} (hl : H l = some (.lst xs)) (hb : b ≠ l) (h : SqL S.K (hid M H) b ys) : SqL S.K (hid (l :: M) H) b ys := h.imp (fun z => by
  rcases z with z | ⟨o', z⟩
  · exact .inl (hid_past hb z)
  · exact .inr ⟨o', hid_lst hl (fun ys z => nomatch z) z⟩) id
theorem ins_hid {b dx C : Addr} {ws : List (Str × V)} (hl : H l = some (.lst xs)) (h : hid M H b = some (.ins C dx ws)) : hid (l :: M) H b = some (.ins C dx ws) := hid_lst hl (fun ys z => nomatch z) h
theorem ptsDs_cons {d : D} {ds : List D} (q : ptsDs (d :: ds) = true) : ptsD d = true ∧ ptsDs ds = true := by unfold ptsDs at q; exact Bool.and_eq_true_iff.mp q
theorem ptsF_cons {d : Str × D} {ds : List (Str × D)} (q : ptsF (d :: ds) = true) : ptsD d.2 = true ∧ ptsF ds = true := by unfold ptsF at q; exact Bool.and_eq_true_iff.mp q
mutual
theorem Rep.apart (hk : ∀ a o, S.K.lookup a = some o → H a = none) (hl : H l = some (.lst (v0 :: xs))) {M0 : List Addr} (r0 : Rep S (hid M0 H) v0 (.tup ts)) : ∀ {v : V} {d : D}, Rep S (hid M H) v d → ptsD d = true → Rep S (hid (l :: M) H) v d
  | _, _, .non, _ => .non
  | _, _, .bl b, _ => .bl b
  | _, _, .int i, _ => .int i
  | _, _, .str x, _ => .str x
  | _, _, .tup h r, q => .tup (tup_hid hl h) (Reps.apart hk hl r0 r (by unfold ptsD at q; exact q))
  | _, .lst ds, .lst (a := a) (vs := vs) h r, q => by
    have hb : a ≠ l := fun z => by
      subst z
      have hv : vs = v0 :: xs := by
        rcases h with (z | ⟨o', z⟩) | ⟨o', its, n, hk2, _⟩
        · have := (hid_some z).2
          rw [hl] at this
          cases this
          rfl
        · have := (hid_some z).2
          rw [hl] at this
          cases this
        · have := hk _ _ hk2
          rw [hl] at this
          cases this
      subst hv
      cases r with
      | cons r1 rr =>
        rename_i d1 ds1
        cases d1 with
        | pt x y o => exact pt_tup hk r1 r0
        | _ => unfold ptsD at q; cases q
    refine .lst (lst_hid hl hb h) (Reps.apart hk hl r0 r ?_)
    cases ds with
    | nil => rfl
    | cons d1 ds1 =>
      cases d1 with
      | pt x y o => unfold ptsD at q; show (true && ptsDs ds1) = true; rw [q]; rfl
      | _ => unfold ptsD at q; cases q
  | _, _, .pt h hx hy ho, _ => .pt (slt_hid hl h) hx hy ho
  | _, _, .obj h r, q => .obj (ins_hid hl h) (RepF.apart hk hl r0 r (by unfold ptsD at q; exact q))
theorem Reps.apart (hk : ∀ a o, S.K.lookup a = some o → H a = none) (hl : H l = some (.lst (v0 :: xs))) {M0 : List Addr} (r0 : Rep S (hid M0 H) v0 (.tup ts)) : ∀ {vs : List V} {ds : List D}, Reps S (hid M H) vs ds → ptsDs ds = true → Reps S (hid (l :: M) H) vs ds
  | _, _, .nil, _ => .nil
  | _, _, .cons h t, q => .cons (Rep.apart hk hl r0 h (ptsDs_cons q).1) (Reps.apart hk hl r0 t (ptsDs_cons q).2)
theorem RepF.apart (hk : ∀ a o, S.K.lookup a = some o → H a = none) (hl : H l = some (.lst (v0 :: xs))) {M0 : List Addr} (r0 : Rep S (hid M0 H) v0 (.tup ts)) : ∀ {vs : List (Str × V)} {ds : List (Str × D)}, RepF S (hid M H) vs ds → ptsF ds = true → RepF S (hid (l :: M) H) vs ds
  | _, _, .nil, _ => .nil
  | _, _, .cons h t, q => .cons (Rep.apart hk hl r0 h (ptsF_cons q).1) (RepF.apart hk hl r0 t (ptsF_cons q).2)
end
end
section
variable {X : Cx} {W : Wd} {S : Sg} {U : WX} {k j : Nat} {g g1 : En} {P : Po} {o e : Expr} {es : List Expr} {d : D} {ds ts : List D} {st : Stmt} {rest : List Stmt} {fs fs' : List (Str × D)} {x y m : Str} {fns : List Str} {i n c : Nat} {pos p apos cpos : Pos} {R3 : List (Str × D) → List D → Out → Prop}
theorem kin_none {pins : List (Addr × Obj)} {σ : L2.St} {H : Hp} {s : Shared} (I : Inv X pins σ H s) : ∀ a o, X.K.lookup a = some o → H a = none := fun a o h => (I.bs a o (I.ok.mod.kin a o h)).2
theorem e_viewK (C : Kb X W S) (hi : g[i]? = some (.own (.tup ts :: ds))) (he : Fw.XE X S (g.set i (.v (.lst (.tup ts :: ds)))) e d) (hd : ptsD d = true) : Fw.XE X S g e d := by
  refine ⟨fun pins s σ H Q I ⟨B, M, st, kk⟩ => ?_⟩
  obtain ⟨M', l, vs, hM, hl, st'⟩ := st.viewOwn hi
  obtain ⟨l2, vs2, ht, hm, h0, hl2, r⟩ := st.own hi
  have el : l2 = l := by
    obtain ⟨v, e1, r1⟩ := st'.var (i := i) (d := .lst (.tup ts :: ds)) (by
      rw [List.getElem?_set_self]
      exact (List.getElem?_eq_some_iff.mp hi).1)
    rw [ht] at e1
    cases e1
    cases r1 with
    | lst h r2 =>
      by_cases z : l2 = l
      · exact z
      · exfalso
        have hm' : l2 ∈ M' := by
          rcases List.mem_cons.mp (hM l2 hm) with w | w
          · exact absurd w z
          · exact w
        rcases h with (w | ⟨o', w⟩) | ⟨o', its, n, hk2, _⟩
        · exact (hid_some w).1 hm'
        · exact (hid_some w).1 hm'
        · have hk := kin_none I l2 o' (by rw [C.kk]; exact hk2)
          rw [hl2] at hk
          cases hk
  subst el
  rw [hl2] at hl
  cases hl
  cases r with
  | cons r0 rr =>
    rename_i v0 xs
    refine thn (he.run pins s σ H (fun v H1 => Same H H1 ∧ Rep S (hid M' H1) v d) I ⟨B0, M', st', fun v H1 e1 r => ⟨e1, r⟩⟩) fun u s1 ⟨v, H1, I1, rx, e1, rv⟩ => ⟨v, H1, I1, rx, ?_⟩
    have hk : ∀ a o, S.K.lookup a = some o → H1 a = none := fun a o h => kin_none I1 a o (by rw [C.kk]; exact h)
    exact kk v H1 e1 ((Rep.apart hk (e1 _ _ hl2) (r0.mono (hid_same e1)) rv hd).mono (hid_sub hM))

/-! ### the body of a law: what it leaves behind is asked by nobody, so it may change what it shares -/
def XBL (X : Cx) (S : Sg) (U : WX) (g : En) (sts : List Stmt) (P : Po) : Prop := PSs X sts fun E t H => ∃ M, Stt S B0 M g t H ∧ Ct S B0 U P E ∧ Cx' S B0 U P
theorem l_of {sts : List Stmt} (h : XB X S U g sts P) : XBL X S U g sts P := psbI h fun E t H ⟨M, st, c, x⟩ => ⟨B0, M, st, c, x⟩
theorem l_cons (h : XS X S U g st { P with nx := fun g' => XBL X S U g' rest P }) : XBL X S U g (st :: rest) P := by
  have h2 : PSs X rest (fun E t H => ∃ g', XBL X S U g' rest P ∧ ∃ M, Stt S B0 M g' t H ∧ Ct S B0 U P E ∧ Cx' S B0 U P) := ⟨fun pins s σ H E I ⟨g', hx, w⟩ => hx.run pins s σ H E I w⟩
  refine psbI (pss_cons h h2) fun E σ H ⟨M, st, c, x⟩ => ?_
  exact ⟨B0, M, st, ⟨fun g' M' t' H' hx st' => ⟨g', hx, M', st', c, x⟩, c.rt, c.bk, c.ct, c.rn⟩, x⟩
/-- the slots that outlive a change of an instance of the class c -/
inductive Kp (S : Sg) (c : Nat) : En → En → Prop
  | nil : Kp S c [] []
  | no {s : Sl} {g g' : En} (h : Kp S c g g') : Kp S c (s :: g) (.no :: g')
  | keep {d : D} {g g' : En} (q : Past S c d) (h : Kp S c g g') : Kp S c (.v d :: g) (.v d :: g')
theorem Kp.get : ∀ {g g' : En}, Kp S c g g' → ∀ {j : Nat} {s : Sl}, g'[j]? = some s → s = .no ∨ ∃ d, s = .v d ∧ g[j]? = some (.v d) ∧ Past S c d
  | _, _, .nil, j, s, h => by simp at h
  | _, _, .no h, 0, s, hj => .inl (Option.some.inj hj).symm
  | _, _, .no h, j + 1, s, hj => by
    have := h.get (j := j) (s := s) (by simpa using hj)
    simpa using this
  | _, _, .keep q h, 0, s, hj => .inr ⟨_, (Option.some.inj hj).symm, rfl, q⟩
  | _, _, .keep q h, j + 1, s, hj => by
    have := h.get (j := j) (s := s) (by simpa using hj)
    simpa using this
theorem Kp.len : ∀ {g g' : En}, Kp S c g g' → g'.length = g.length
  | _, _, .nil => rfl
  | _, _, .no h => congrArg Nat.succ h.len
  | _, _, .keep _ h => congrArg Nat.succ h.len
/-- behind a change of the instance at a -/
theorem Stt.wild {M : List Addr} {t : L2.St} {H H' : Hp} {a dx : Addr} {ws ws' : List (Str × V)} {ds2 : List D} (hC : S.cO c ≠ S.cP) (st : Stt S B0 M g t H) (ha : H a = some (.ins (S.cO c) dx ws)) (haM : a ∉ M) (e : Same (hid [a] H) H') (hl : H' a = some (.ins (S.cO c) dx ws')) (r' : RepF S (hid (a :: M) H') ws' fs') (hk : Kp S c g g1) (hi : g[i]? = some (.v (.tup (.obj c fs :: ds2)))) (hp : Pasts S c ds2) (hpf : PastF S c fs) :
    ∃ d0, Stt S B0 M (g1.set i (.v (.tup (d0 :: ds2)))) t H' := by
  have hs : Same (hid (a :: M) H) (hid M H') := fun b u hb => by
    obtain ⟨h1, h2⟩ := hid_some hb
    have n1 : b ≠ a := fun z => h1 (z ▸ List.mem_cons_self)
    exact hid_of (fun z => h1 (List.mem_cons_of_mem _ z)) (e _ _ (hid_of (fun z => n1 (List.mem_singleton.mp z)) h2))
  have htup : ∃ d0 o, t[i]? = some o ∧ ∃ v, o = some v ∧ Rep S (hid M H') v (.tup (d0 :: ds2)) := by
    obtain ⟨v, e1, r⟩ := st.var hi
    cases r with
    | tup h rr =>
      cases rr with
      | cons r1 r2 =>
        have h2 := (r2.past ha hC hp).mono hs
        have h3 := Evl.ex_t hs (tup_past ha h)
        cases r1 with
        | obj hb rf =>
          rename_i b dx2 ws2
          by_cases z : b = a
          · subst z
            exact ⟨.obj c fs', _, e1, _, rfl, .tup h3 (.cons (.obj (hid_of haM hl) (r'.mono (hid_sub fun q hq => List.mem_cons_of_mem _ hq))) h2)⟩
          · exact ⟨.obj c fs, _, e1, _, rfl, .tup h3 (.cons (.obj (hs _ _ (hid_past z hb)) ((rf.past ha hC hpf).mono hs)) h2)⟩
  obtain ⟨d0, o, ho, v, hv, rv⟩ := htup
  have mineF : ∀ (j : Nat) (s : Sl), (g1.set i (.v (.tup (d0 :: ds2))))[j]? = some s → s.mine = false := fun j s hj => by
    by_cases q : i = j
    · subst q
      obtain ⟨q, _⟩ := set_get hj
      subst q
      rfl
    · rw [List.getElem?_set_ne q] at hj
      rcases hk.get hj with rfl | ⟨d, rfl, _⟩ <;> rfl
  refine ⟨d0, ⟨fun a u z => (nomatch z), fun a ha => (nomatch ha), fun a ha => .inr rfl, fun b hb z => ?_, fun j s hj => ?_, trivial, fun j k s u w hjk h1 h2 m1 m2 e1 e2 => ?_⟩⟩
  · cases q : H b with
    | none => exact st.trk b hb q
    | some o =>
      rw [e _ _ (hid_of (fun w => haM (by rw [← List.mem_singleton.mp w]; exact hb)) q)] at z
      cases z
  · by_cases q : i = j
    · subst q
      obtain ⟨q, _⟩ := set_get hj
      subst q
      exact ⟨o, ho, v, hv, rv⟩
    · rw [List.getElem?_set_ne q] at hj
      rcases hk.get hj with rfl | ⟨d, rfl, hg, hd⟩
      · have : j < g.length := by rw [← hk.len]; exact (List.getElem?_eq_some_iff.mp hj).1
        obtain ⟨o, ho, _⟩ := st.sl j _ (List.getElem?_eq_getElem this)
        exact ⟨o, ho, True.intro⟩
      · obtain ⟨o, ho, v, e1, r⟩ := st.sl j _ hg
        exact ⟨o, ho, v, e1, (r.past ha hC hd).mono hs⟩
  · rw [mineF j s h1] at m1
    cases m1
/-- o.m(..) changes an instance that stands in a tuple -/
theorem l_mut {pl : Sem Bool} {ds2 : List D} (C : Cc X W S k) (OC : ObC W S c y fns) (hC : S.cO c ≠ S.cP) (F : MutC W S c m j n R3) (ho : Fw.XE X S g o (.obj c fs)) (hlm : fs.lookup m = none) (ha : XA X S g (e :: es) ds) (hR : R3 fs ds (.ok (.obj c fs'))) (hk : Kp S c g g1) (hi : g[i]? = some (.v (.tup (.obj c fs :: ds2)))) (hp : Pasts S c ds2) (hpf : PastF S c fs) (hpa : Pasts S c ds) (h : ∀ d0, XBL X S U (g1.set i (.v (.tup (d0 :: ds2)))) rest P) (hn : ds.length + 1 = n := by rfl) (hj : j ≤ k := by decide)
    (hst : starEach (e :: es) X.env = (false, eval e X.env) :: starEach es X.env := by rfl) (hpl : (backTo cpos (starEach es X.env)).any (·.1) = false := by rfl)
    (ht : eval (.Call (.Attribute o m apos) (e :: es) [] cpos) X.env = (do
      let ov ← eval o X.env
      standAt apos.atName
      let (f, first) ← holding [ov] (getMethod ov m pl)
      callWith cpos f first (backTo cpos (starEach (e :: es) X.env)) (backToKw cpos (keywordEach [] X.env))) := by rfl)
    (hs : swapsWith (.Call (.Attribute o m apos) (e :: es) [] cpos) none pos.line X.env = pure false := by rfl) : XBL X S U g (.Expr (.Call (.Attribute o m apos) (e :: es) [] cpos) pos :: rest) P := by
  have key : PE X (.Call (.Attribute o m apos) (e :: es) [] cpos) fun t H Q => ∃ M, Stt S B0 M g t H ∧ ∀ d0 H', Stt S B0 M (g1.set i (.v (.tup (d0 :: ds2)))) t H' → Q .non H' := by
    obtain ⟨q, fd, ps, hq, F1, hl, hb⟩ := F.ex
    have hcl := OC.cls
    have Kx : X.K = W.K := C.kw
    rw [← Kx] at hcl hq
    obtain ⟨⟨w1, w2, c3, c4⟩, c1, c2⟩ := C
    subst w1
    refine ⟨fun pins s σ H Q I w => ?_⟩
    obtain ⟨M, st, kk⟩ := w
    refine PySem.W.methodCall_KW (pl := pl) (thn (ho.run pins s σ H (fun v H1 => Same H H1 ∧ Rep S (hid M H1) v (.obj c fs)) I ⟨B0, M, st, fun v H1 e1 r => ⟨e1, r⟩⟩) fun u s1 ⟨v, H1, I1, rx, e1, r⟩ => ?_) ht
    cases r with
    | obj hob rr =>
      rename_i a dx ws0
      obtain rfl : u = Value.ref a := rx
      obtain ⟨haM, hl0⟩ := hid_some hob
      have st1 := st.mono e1
      refine getmeth_ok I1 hl0 hcl hq (rr.lookN hlm) ?_
      refine PySem.W.callWith_K (first := [.ref a]) (h₀ := X.base) I.ok.mod.kin hq.kp (thn (ha.run cpos pins s1 σ H1 (fun vs H2 => Same H1 H2 ∧ Reps S (hid M H2) vs ds) I1 ⟨B0, M, st1, fun vs H2 e2 r2 => ⟨e2, r2⟩⟩) fun us s2 ⟨vs, H2, I2, r2, e2, rs⟩ => ⟨I2.kIn, ?_⟩) hst hpl
      have st2 := st1.mono e2
      have hl2 := e2 _ _ hl0
      refine run_SR (U := fun _ _ _ _ => False) (vs := .ref a :: vs) (ws := .ref a :: us) (fnr_of F1 hb) (c2.mono hj) takes0 I2 (.cons rfl r2) ?_
      refine ⟨a, dx, ws0, vs, M, fs, ds, _, rfl, by rw [rs.length, hl, ← hn], haM, hl2, st2.trk, (rr.mono (hid_same e2)).past hl2 hC hpf, rs.past hl2 hC hpa, hR, rfl, fun ws' H' e' hl' r' => ?_⟩
      obtain ⟨d0, st3⟩ := st2.wild hC hl2 haM e' hl' r' hk hi hp hpf
      exact kk d0 H' st3
  have h2 : PSs X rest (fun E t H => ∃ d0 M, Stt S B0 M (g1.set i (.v (.tup (d0 :: ds2)))) t H ∧ Ct S B0 U P E ∧ Cx' S B0 U P) := ⟨fun pins s σ H E I ⟨d0, w⟩ => (h d0).run pins s σ H E I w⟩
  refine psbI (pss_cons (ps_expr key hs) h2) fun E σ H ⟨M, st, c, x⟩ => ⟨M, st, fun d0 H' st' => ⟨d0, M, st', c, x⟩⟩
end
/-- a law whose body is walked so -/
theorem law_okL {W : Wd} {S : Sg} {x qual : Str} {st : Stmt} {f : Addr} {fd : FuncData} {N ps : List Str} {k : Nat} (F : Fd W.K x qual st [] f fd) (hK : W.K = S.K) (sc : FnScope N ps (defScope st)) (hp : ps.length = 1)
    (body : ∀ (X : Cx) (U : WX) (ns : List Int), InB X W S k N (defScope st) U → ns.length ≤ 63 → XBL X S U (enOf N.length [.lst (ns.map D.int)]) (defBody st) { nx := fun _ => False, rt := fun d => d = .bl true }) :
    FnOk W.P W.w W.K W.mg W.base (L2N.CX W.P W.w) (k + 1) f fd ps (spLaw W.K) := by
  obtain ⟨oc, od, dV, kV, doc, pm, an, cdv, ct, osl, rfl, lk, hcd, _, _⟩ := F.ex
  refine fn_of lk hcd sc (fun vs H Q E h => by obtain ⟨a, ns, rfl, _⟩ := h; rw [hp]; rfl) (fun A outer s H vs Q E hr h => ?_)
  obtain ⟨a, ns, rfl, hl, hq, K⟩ := h
  refine ⟨_, body _ (fun cls d _ H => E cls d H) ns ⟨⟨⟨rfl, hK, passes_of rfl, sc.nd⟩, rfl, rfl, fun _ => rfl⟩, ⟨⟨rfl, hK, passes_of rfl, sc.nd⟩, rfl, hr⟩, L2N.takes_of rfl rfl rfl rfl, rfl, rfl⟩ hl, ?_⟩
  have e : hid [] H = H := by funext b; unfold hid; rw [if_neg (fun z => nomatch z)]
  have st0 := stt_start (S := S) (M := []) (N := N) (H := H) (vs := [.ref a]) (ds := [.lst (ns.map D.int)]) (fun b z => nomatch z) (.cons (.lst (by rw [e, ← hK]; exact hq) (Reps.of_ints ns)) .nil)
  refine ⟨[], ⟨fun a u z => (nomatch z), fun a ha => (nomatch ha), fun a ha => (nomatch ha), fun a ha => (nomatch ha), fun j s hj => ?_, trivial, fun j k s u w hjk h1 h2 m1 m2 e1 e2 => st0.apart j k s u w hjk h1 h2 m1 m2 e1 e2⟩, ⟨fun _ _ _ _ z => z.elim, fun v H' d' hz _ r' => ?_, fun _ _ _ _ z => z.elim, fun _ _ _ _ z => z.elim, fun _ _ _ z => z.elim⟩, fun c fs dx ws g M t H z => z.elim⟩
  · obtain ⟨o, ho, r⟩ := st0.sl j s hj
    refine ⟨o, ho, ?_⟩
    cases s with
    | no => exact True.intro
    | v d => exact r
    | own ds' => obtain ⟨_, _, _, m, _⟩ := r; exact nomatch m
    | ob a dx c fs => obtain ⟨_, m, _⟩ := r; exact nomatch m
    | pi a dx vs => obtain ⟨_, m, _⟩ := r; exact nomatch m
    | exc a dd c fs => exact r
  · have hz' : d' = .bl true := hz
    subst hz'
    cases r'
    exact K H'
end Fw

set_option Elab.async false
set_option linter.all false
set_option maxRecDepth 100000
set_option maxHeartbeats 4000000
namespace Fw
open PySem L2 PyProof.Rows
open Builtin Builtin.Str Builtin.Int
/-! ### f-strings whose parts have a width -/
local macro_rules | `(tactic| walk_at "grp") => do
  let n := Lean.Name.str (Lean.Name.str (Lean.Name.str (Lean.Name.num (Lean.Name.str (Lean.Name.str (Lean.Name.str (Lean.Name.str (Lean.Name.str .anonymous "_private") "PySem") "Builtin") "Int") "W1All") 0) "PySem") "Builtin") "groupsFromRight"
  `(tactic| exact $(Lean.mkIdent n))
/-- the model's own grouping of figures -/
def grpP : Nat → Nat → Nat → List Nat → Int → List Nat → List Nat := by walk_at "grp"
theorem grpP_step (f : Nat) (r : List Nat) (m : Int) (o : List Nat) : grpP 3 44 (f + 1) r m o = (if ((r.drop (min 3 (max (max (r.length : Int) m) 1).toNat)).isEmpty && decide (m - (min 3 (max (max (r.length : Int) m) 1).toNat : Nat) ≤ 0)) = true then List.replicate ((min 3 (max (max (r.length : Int) m) 1).toNat) - r.length) 48 ++ (r.take (min 3 (max (max (r.length : Int) m) 1).toNat)).reverse ++ o else grpP 3 44 f (r.drop (min 3 (max (max (r.length : Int) m) 1).toNat)) (m - (min 3 (max (max (r.length : Int) m) 1).toNat : Nat) - 1) (44 :: (List.replicate ((min 3 (max (max (r.length : Int) m) 1).toNat) - r.length) 48 ++ (r.take (min 3 (max (max (r.length : Int) m) 1).toNat)).reverse ++ o))) := rfl
/-- groups of three, from the last figure on -/
def cmR : Nat → List Nat → List Nat → List Nat
  | 0, _, o => o
  | f + 1, r, o => if r.length ≤ 3 then r.reverse ++ o else cmR f (r.drop 3) (44 :: ((r.take 3).reverse ++ o))
theorem grp_cm : ∀ (f : Nat) (r : List Nat) (m : Int) (o : List Nat), r ≠ [] → m ≤ 0 → grpP 3 44 f r m o = cmR f r o
  | 0, _, _, _, _, _ => rfl
  | f + 1, r, m, o, hr, hm => by
    rw [grpP_step]
    have h1 : 1 ≤ r.length := by
      cases r with
      | nil => exact absurd rfl hr
      | cons _ _ => simp
    have hn : min 3 (max (max (r.length : Int) m) 1).toNat = min 3 r.length := by omega
    rw [hn]
    have h2 : min 3 r.length - r.length = 0 := by omega
    rw [h2, List.replicate_zero, List.nil_append]
    show _ = if r.length ≤ 3 then r.reverse ++ o else cmR f (r.drop 3) (44 :: ((r.take 3).reverse ++ o))
    by_cases k : r.length ≤ 3
    · have h3 : min 3 r.length = r.length := by omega
      rw [h3, List.drop_length, List.take_length, if_pos k, if_pos]
      rw [decide_eq_true (by omega)]
      rfl
    · have h3 : min 3 r.length = 3 := by omega
      have h4 : (r.drop 3).isEmpty = false := by
        cases e : r.drop 3 with
        | nil =>
          have := congrArg List.length e
          rw [List.length_drop, List.length_nil] at this
          omega
        | cons _ _ => rfl
      rw [h3, if_neg k, h4, Bool.false_and, if_neg Bool.false_ne_true]
      exact grp_cm f (r.drop 3) _ _ (fun z => by rw [z] at h4; cases h4) (by omega)
def iL (i : Int) : List Nat := if i < 0 then 45 :: TL.numL i.natAbs else TL.numL i.natAbs
def padL (w : Nat) (l : List Nat) : List Nat := List.replicate (w - l.length) 32 ++ l
def cmI (n : Nat) : List Nat := cmR ((TL.numL n).length + 1) (TL.numL n).reverse []
theorem num_emp (n : Nat) : (TL.numL n).isEmpty = false := by
  cases e : TL.numL n with
  | nil => exact absurd e (TL.numL_ne n)
  | cons _ _ => rfl
theorem gives_after_cut {v : Value} {T : String} {k : String → Sem PySem.Fin} {m : Made} (hT : ∀ s : Shared, s.TypeIs v T) (hn : (Value.type T == Value.type "builtin_function_or_method") = false) (g : ∀ n, Gives (k n) m) : Gives (do let n ← typeNameOfCut 200 v; k n) m :=
  fun prog w A R s hq => by
    refine wpAny_bind ?_
    unfold typeNameOfCut shownTypeOf
    refine wpAny_bind (wpAny_bind (wpAny_typeOf (hT s) ?_))
    simp only [hn, Bool.false_eq_true, if_false]
    exact wpAny_pure (wpAny_pure (g _ prog w A R s hq))
theorem int_key (w : Nat) (neg : Bool) (ds : List Nat) (hd : ds.isEmpty = false) :
    List.replicate (((w : Int) - ((((if neg = true then [45] else [] : List Nat).length : Int) + (([] : List Nat).length : Int)) + (([] : List Nat).length : Int)) - ((if ds.isEmpty = true then [] else List.replicate ((0 : Int).toNat - ds.length) 48 ++ ds : List Nat).length : Int)).toNat) 32 ++ (if neg = true then [45] else []) ++ [] ++ List.replicate 0 32 ++ (if ds.isEmpty = true then [] else List.replicate ((0 : Int).toNat - ds.length) 48 ++ ds) ++ [] ++ List.replicate 0 32 = padL w (if neg = true then 45 :: ds else ds) := by
  rw [hd, if_neg Bool.false_ne_true]
  have e0 : (0 : Int).toNat - ds.length = 0 := by simp
  rw [e0, List.replicate_zero, List.replicate_zero]
  unfold padL
  cases neg with
  | false =>
    have e1 : ((w : Int) - ((((if false = true then [45] else [] : List Nat).length : Int) + (([] : List Nat).length : Int)) + (([] : List Nat).length : Int)) - ((([] : List Nat) ++ ds).length : Int)).toNat = w - (if false = true then 45 :: ds else ds).length := by
      simp only [Bool.false_eq_true, if_false, List.nil_append, List.length_nil]
      omega
    rw [e1]
    simp
  | true =>
    have e1 : ((w : Int) - ((((if true = true then [45] else [] : List Nat).length : Int) + (([] : List Nat).length : Int)) + (([] : List Nat).length : Int)) - ((([] : List Nat) ++ ds).length : Int)).toNat = w - (if true = true then 45 :: ds else ds).length := by
      simp only [if_true, List.nil_append, List.length_nil, List.length_cons]
      omega
    rw [e1]
    simp
theorem gives_int_6 (x : Int) (t u : Tok) (hd : x.natAbs.log2 < 1920) : Gives (Builtin.«int.__format__» ⟨[.int x t, .str (SX.S [62, 54]) u], []⟩) (.str (SX.S (padL 6 (if decide (x < 0) = true then 45 :: TL.numL x.natAbs else TL.numL x.natAbs)))) := by
  show Gives (do
    let _kind ← typeNameOf (.str (SX.S [62, 54]) u)
    let name ← typeNameOfCut 200 (.int x t)
    _) _
  refine gives_after_typeNameOf (T := "str") (fun s => typeIs_str s _ _) (by decide) fun _ => ?_
  refine gives_after_cut (T := "int") (fun s => typeIs_int s _ _) (by decide) fun _ => ?_
  show Gives (do let r ← overDigitLimit? x; _) _
  rw [PySem.overDigitLimit_small hd]
  exact .of_eq (congrArg (fun l : List Nat => (Made.str (SX.S l)).tree) (int_key 6 (decide (x < 0)) (TL.numL x.natAbs) (num_emp _)))
theorem com_key (w : Nat) (ds : List Nat) (hd : ds ≠ []) :
    List.replicate (((w : Int) - ((((if false = true then [45] else [] : List Nat).length : Int) + (([] : List Nat).length : Int)) + (([] : List Nat).length : Int)) - ((if ds.isEmpty = true then [] else grpP 3 44 (ds.length + (0 : Int).toNat + 1) ds.reverse 0 [] : List Nat).length : Int)).toNat) 32 ++ (if false = true then [45] else []) ++ [] ++ List.replicate 0 32 ++ (if ds.isEmpty = true then [] else grpP 3 44 (ds.length + (0 : Int).toNat + 1) ds.reverse 0 []) ++ [] ++ List.replicate 0 32 = padL w (cmR (ds.length + 1) ds.reverse []) := by
  have h1 : ds.isEmpty = false := by
    cases ds with
    | nil => exact absurd rfl hd
    | cons _ _ => rfl
  rw [h1, if_neg Bool.false_ne_true, if_neg Bool.false_ne_true]
  have e0 : ds.length + (0 : Int).toNat + 1 = ds.length + 1 := rfl
  rw [e0, grp_cm _ _ _ _ (fun z => hd (List.reverse_eq_nil_iff.mp z)) (Int.le_refl 0), List.replicate_zero]
  generalize cmR (ds.length + 1) ds.reverse [] = cs
  unfold padL
  have e1 : ((w : Int) - (((([] : List Nat).length : Int) + (([] : List Nat).length : Int)) + (([] : List Nat).length : Int)) - (cs.length : Int)).toNat = w - cs.length := by
    simp only [List.length_nil]
    omega
  rw [e1]
  simp
theorem gives_int_8c (n : Nat) (t u : Tok) (hd : (n : Int).natAbs.log2 < 1920) : Gives (Builtin.«int.__format__» ⟨[.int (n : Int) t, .str (SX.S [62, 56, 44]) u], []⟩) (.str (SX.S (padL 8 (cmI n)))) := by
  show Gives (do
    let _kind ← typeNameOf (.str (SX.S [62, 56, 44]) u)
    let name ← typeNameOfCut 200 (.int (n : Int) t)
    _) _
  refine gives_after_typeNameOf (T := "str") (fun s => typeIs_str s _ _) (by decide) fun _ => ?_
  refine gives_after_cut (T := "int") (fun s => typeIs_int s _ _) (by decide) fun _ => ?_
  show Gives (do let r ← overDigitLimit? (n : Int); _) _
  rw [PySem.overDigitLimit_small hd]
  have e : decide ((n : Int) < 0) = false := decide_eq_false (by omega)
  rw [e]
  exact .of_eq (congrArg (fun l : List Nat => (Made.str (SX.S l)).tree) (com_key 8 (TL.numL n) (TL.numL_ne n)))
/-! texts -/
theorem fld_pad (l : List Nat) (w : Nat) (name : String) (hl : l.length < w) : strField (SX.S l) { align := 62, width := some w } name = .ok (some (SX.S (padL w l))) := by
  have h1 : decide (w ≤ (SX.S l).length) = false := decide_eq_false (by rw [SX.S_len]; omega)
  show (if (decide (w ≤ (SX.S l).length) && true) = true then Except.ok none else Except.ok (some (padded (strSub (SX.S l) 0 (SX.S l).length) (w - (strSub (SX.S l) 0 (SX.S l).length).length) ((w - (strSub (SX.S l) 0 (SX.S l).length).length) - (w - (strSub (SX.S l) 0 (SX.S l).length).length)) 32))) = _
  have h2 : strSub (SX.S l) 0 (SX.S l).length = SX.S l := by
    unfold strSub
    show (⟨l.toArray.extract 0 l.toArray.size⟩ : Str) = _
    rw [Array.extract_size]
  rw [h1, h2, SX.S_len, Nat.sub_self]
  show Except.ok (some (padded (SX.S l) (w - l.length) 0 32)) = _
  have h3 : padded (SX.S l) (w - l.length) 0 32 = SX.S (padL w l) := by
    refine TL.ext_tl ?_
    unfold padded padL
    simp
  rw [h3]
theorem fld_same (l : List Nat) (w : Nat) (name : String) (hl : w ≤ l.length) : strField (SX.S l) { align := 62, width := some w } name = .ok none := by
  have h1 : decide (w ≤ (SX.S l).length) = true := decide_eq_true (by rw [SX.S_len]; omega)
  show (if (decide (w ≤ (SX.S l).length) && true) = true then Except.ok none else Except.ok (some (padded (strSub (SX.S l) 0 (SX.S l).length) (w - (strSub (SX.S l) 0 (SX.S l).length).length) ((w - (strSub (SX.S l) 0 (SX.S l).length).length) - (w - (strSub (SX.S l) 0 (SX.S l).length).length)) 32))) = _
  rw [h1]
  rfl
theorem gives_str_w (l : List Nat) (w : Nat) (sp : List Nat) (hsp : (w = 12 ∧ sp = [62, 49, 50]) ∨ (w = 8 ∧ sp = [62, 56])) (t u : Tok) (m : Made) (hm : (l.length < w ∧ m = .str (SX.S (padL w l))) ∨ (w ≤ l.length ∧ m = .val (.str (SX.S l) t))) : Gives (Builtin.«str.__format__» ⟨[.str (SX.S l) t, .str (SX.S sp) u], []⟩) m := by
  have any : ∀ (name : String) (er : String → Sem PySem.Fin), Gives (match (do let r ← strField (SX.S l) { align := 62, width := some w } name; pure (some r) : Except String (Option (Option Str))) with
      | .error msg => er msg
      | .ok none => unsupported "str.__format__:memory"
      | .ok (some none) => (do rule "str.__format__.unchanged"; ret (.str (SX.S l) t))
      | .ok (some (some text)) => retStr text) m := fun name er => by
    rcases hm with ⟨h, rfl⟩ | ⟨h, rfl⟩
    · rw [fld_pad l w name h]
      exact .of_eq rfl
    · rw [fld_same l w name h]
      exact .rule (.of_eq rfl)
  rcases hsp with ⟨rfl, rfl⟩ | ⟨rfl, rfl⟩
  · exact gives_after_cut (T := "str") (fun s => typeIs_str s (SX.S l) t) (by decide) fun name => any name _
  · exact gives_after_cut (T := "str") (fun s => typeIs_str s (SX.S l) t) (by decide) fun name => any name _
section
variable {prog : Program} {w : World} {A : Around} {E : Value → Shared → Prop} {s : Shared}
theorem field_val {T idf : String} {B : Builtin} {v : Value} {sp x : Str} {t : Tok} {Q : Value → Shared → Prop} (hne : (sp.length == 0) = false) (hT : ∀ s' : Shared, s'.TypeIs v T) (slot : Slot T "__format__" idf)
    (entry : entryFor table idf = some B) (args : ∀ a b, argsOk idf ⟨[a, b], []⟩) (g : ∀ u, Gives (B ⟨[v, .str sp u], []⟩) (.val (.str x t)))
    (h : Q (.str x t) { s with toks := s.toks + 1 }) (hsz : sp.length ≤ sizeLine) : wpAny (model prog w) A (formatField v sp) Q E s := by
  have e : formatField v sp = holding [v] (pyFormat v sp) := by
    unfold formatField
    cases v <;> simp only [hne, Bool.false_eq_true, if_false] <;> rfl
  rw [e]
  refine wpAny_holding ?_
  unfold pyFormat
  refine wpAny_bind (wpAny_mkStr ?_ hsz)
  refine wpAny_bind (m := callSpecial? v (Str.ofString "__format__") [.str sp s.toks]) (wpAny_callSpecial?_slot (name := Str.ofString "__format__") (hT _) slot
    (call_gives slot (hT _) entry (args _ _) (g _) ?_))
  exact wpAny_bind (wpAny_isInstance (T := "str") (b := true) rfl isSubtype_str_str (wpAny_pure h))
end
theorem iL_len {i : Int} {n : Nat} [b : Bd i n] (h : n ≤ 1900) : (iL i).length ≤ 1901 := by
  have := TL.numL_len (n := i.natAbs) (k := 1900) (by decide) (Nat.lt_of_lt_of_le b.h (Nat.le_trans (Nat.pow_le_pow_right (by decide) h) (Nat.pow_le_pow_left (by decide) 1900)))
  unfold iL
  split <;> simp <;> omega
theorem padL_len {w k : Nat} {l : List Nat} (h : l.length ≤ k) : (padL w l).length ≤ w + k := by
  unfold padL
  rw [List.length_append, List.length_replicate]
  omega
theorem cmR_len : ∀ (f : Nat) (r o : List Nat), (cmR f r o).length ≤ 2 * r.length + o.length
  | 0, _, _ => by unfold cmR; omega
  | f + 1, r, o => by
    unfold cmR
    split
    · simp
      omega
    · have := cmR_len f (r.drop 3) (44 :: ((r.take 3).reverse ++ o))
      simp at this
      omega
section
variable {X : Cx} {S : Sg} {g : En} {e : Expr} {i : Int} {n kk : Nat} {l : List Nat} {x : Str} {pos p1 p2 : Pos}
theorem e_spec (hx : x = tx l) : Fw.XE X S g (.JoinedStr [.Constant (.str x) kk p1] p2) (st l) :=
  peI (pe_joined1 (hx ▸ e_str)) fun σ H Q h => h
theorem e_fmt6 [bi : Bd i n] (he : Fw.XE X S g e (.int i)) (h : n ≤ 1900) (hx : x = tx [62, 54]) : Fw.XE X S g (.FormattedValue e (-1) (some (.JoinedStr [.Constant (.str x) kk p1] p2)) pos) (st (padL 6 (iL i))) := by
  refine ⟨fun pins s σ H Q I ⟨B, M, st', kq⟩ => ?_⟩
  refine wpAny_FormattedValue_spec (thn (he.run pins s σ H (fun v H1 => Same H H1 ∧ v = .int i) I ⟨B, M, st', fun v H1 e1 r => by cases r; exact ⟨e1, rfl⟩⟩) fun u s1 ⟨v, H1, I1, rx, e1, ev⟩ => ?_)
  subst ev
  obtain ⟨t, rfl⟩ := rx
  refine thn ((e_spec (X := X) (S := S) (g := g) (kk := kk) (p1 := p1) (p2 := p2) hx).run pins s1 σ H1 (fun v H2 => Same H1 H2 ∧ v = .str (tx [62, 54])) I1 ⟨B, M, st'.mono e1, fun v H2 e2 r => by cases r; exact ⟨e2, rfl⟩⟩) fun u2 s2 ⟨v2, H2, I2, rx2, e2, ev2⟩ => ?_
  subst ev2
  obtain ⟨t2, rfl⟩ := rx2
  have hd : i.natAbs.log2 < 1920 := by have := log_bd bi; omega
  have hL : (tx (padL 6 (iL i))).length ≤ sizeLine := by
    rw [SX.S_len]
    exact line_of (Nat.le_trans (padL_len (iL_len (n := n) h)) (by decide))
  have ey : (if decide (i < 0) = true then 45 :: TL.numL i.natAbs else TL.numL i.natAbs) = iL i := by
    unfold iL
    by_cases z : i < 0
    · rw [if_pos z, if_pos (decide_eq_true z)]
    · rw [if_neg z, if_neg (fun w => z (of_decide_eq_true w))]
  have g1 := fun u => gives_int_6 i t u hd
  rw [ey] at g1
  exact ⟨_, t2, rfl, wpAny_formatField_spec rfl (fun s' => typeIs_int s' i t) F.slot_int_format F.entry_int_format F.args_int_format_2 g1 ⟨V.str _, H2, I2.tok _, ⟨_, rfl⟩, kq _ H2 (e1.trans e2) (.str _)⟩ (by rw [SX.S_len]; exact line_of (by decide)) hL⟩
theorem e_fmt8c {m : Nat} [bi : Bd (m : Int) n] (he : Fw.XE X S g e (.int (m : Int))) (h : n ≤ 1900) (hx : x = tx [62, 56, 44]) : Fw.XE X S g (.FormattedValue e (-1) (some (.JoinedStr [.Constant (.str x) kk p1] p2)) pos) (st (padL 8 (cmI m))) := by
  refine ⟨fun pins s σ H Q I ⟨B, M, st', kq⟩ => ?_⟩
  refine wpAny_FormattedValue_spec (thn (he.run pins s σ H (fun v H1 => Same H H1 ∧ v = .int (m : Int)) I ⟨B, M, st', fun v H1 e1 r => by cases r; exact ⟨e1, rfl⟩⟩) fun u s1 ⟨v, H1, I1, rx, e1, ev⟩ => ?_)
  subst ev
  obtain ⟨t, rfl⟩ := rx
  refine thn ((e_spec (X := X) (S := S) (g := g) (kk := kk) (p1 := p1) (p2 := p2) hx).run pins s1 σ H1 (fun v H2 => Same H1 H2 ∧ v = .str (tx [62, 56, 44])) I1 ⟨B, M, st'.mono e1, fun v H2 e2 r => by cases r; exact ⟨e2, rfl⟩⟩) fun u2 s2 ⟨v2, H2, I2, rx2, e2, ev2⟩ => ?_
  subst ev2
  obtain ⟨t2, rfl⟩ := rx2
  have hd : (m : Int).natAbs.log2 < 1920 := by have := log_bd bi; omega
  have hn : (TL.numL m).length ≤ 1900 := TL.numL_len (n := m) (k := 1900) (by decide) (Nat.lt_of_lt_of_le bi.h (Nat.le_trans (Nat.pow_le_pow_right (by decide) h) (Nat.pow_le_pow_left (by decide) 1900)))
  have hc : (cmI m).length ≤ 3800 := by
    have := cmR_len ((TL.numL m).length + 1) (TL.numL m).reverse []
    unfold cmI
    rw [List.length_reverse, List.length_nil] at this
    omega
  have hL : (tx (padL 8 (cmI m))).length ≤ sizeLine := by
    rw [SX.S_len]
    exact line_of (Nat.le_trans (padL_len hc) (by decide))
  exact ⟨_, t2, rfl, wpAny_formatField_spec rfl (fun s' => typeIs_int s' (m : Int) t) F.slot_int_format F.entry_int_format F.args_int_format_2 (fun u => gives_int_8c m t u hd) ⟨V.str _, H2, I2.tok _, ⟨_, rfl⟩, kq _ H2 (e1.trans e2) (.str _)⟩ (by rw [SX.S_len]; exact line_of (by decide)) hL⟩
theorem e_fmtT {w : Nat} {sp : List Nat} (hsp : (w = 12 ∧ sp = [62, 49, 50]) ∨ (w = 8 ∧ sp = [62, 56])) (he : Fw.XE X S g e (st l)) (hl : l.length ≤ 5000) (hx : x = tx sp) : Fw.XE X S g (.FormattedValue e (-1) (some (.JoinedStr [.Constant (.str x) kk p1] p2)) pos) (st (padL w l)) := by
  refine ⟨fun pins s σ H Q I ⟨B, M, st', kq⟩ => ?_⟩
  refine wpAny_FormattedValue_spec (thn (he.run pins s σ H (fun v H1 => Same H H1 ∧ v = .str (tx l)) I ⟨B, M, st', fun v H1 e1 r => by cases r; exact ⟨e1, rfl⟩⟩) fun u s1 ⟨v, H1, I1, rx, e1, ev⟩ => ?_)
  subst ev
  obtain ⟨t, rfl⟩ := rx
  refine thn ((e_spec (X := X) (S := S) (g := g) (kk := kk) (p1 := p1) (p2 := p2) hx).run pins s1 σ H1 (fun v H2 => Same H1 H2 ∧ v = .str (tx sp)) I1 ⟨B, M, st'.mono e1, fun v H2 e2 r => by cases r; exact ⟨e2, rfl⟩⟩) fun u2 s2 ⟨v2, H2, I2, rx2, e2, ev2⟩ => ?_
  subst ev2
  obtain ⟨t2, rfl⟩ := rx2
  have hne : ((tx sp).length == 0) = false := by rcases hsp with ⟨_, rfl⟩ | ⟨_, rfl⟩ <;> rfl
  have hs1 : (tx sp).length ≤ sizeLine := by
    rw [SX.S_len]
    refine line_of ?_
    rcases hsp with ⟨_, rfl⟩ | ⟨_, rfl⟩ <;> decide
  refine ⟨_, t2, rfl, ?_⟩
  rcases Nat.lt_or_ge l.length w with z | z
  · refine wpAny_formatField_spec hne (fun s' => typeIs_str s' (tx l) t) F.slot_str_format F.entry_str_format F.args_str_format_2 (fun u => gives_str_w l w sp hsp t u _ (.inl ⟨z, rfl⟩)) ⟨V.str _, H2, I2.tok _, ⟨_, rfl⟩, kq _ H2 (e1.trans e2) (.str _)⟩ hs1 ?_
    rw [SX.S_len]
    refine line_of (Nat.le_trans (padL_len hl) ?_)
    rcases hsp with ⟨rfl, _⟩ | ⟨rfl, _⟩ <;> decide
  · have e0 : padL w l = l := by
      unfold padL
      rw [Nat.sub_eq_zero_of_le z]
      rfl
    rw [e0] at kq
    exact field_val hne (fun s' => typeIs_str s' (tx l) t) F.slot_str_format F.entry_str_format F.args_str_format_2 (fun u => gives_str_w l w sp hsp t u _ (.inr ⟨z, rfl⟩)) ⟨V.str _, H2, I2.tok _, ⟨_, rfl⟩, kq _ H2 (e1.trans e2) (.str _)⟩ hs1
/-- an f-string of one part -/
theorem e_js1 (h : Fw.XE X S g e d) : Fw.XE X S g (.JoinedStr [e] pos) d := peI (pe_joined1 h) fun σ H Q z => z
end
end Fw

set_option Elab.async false
set_option linter.all false
set_option maxRecDepth 100000
set_option maxHeartbeats 4000000
namespace Fw
open PySem L2 PyProof.Rows
section
variable {X : Cx} {W : Wd} {S : Sg} {k : Nat} {g : En} {i : Int} {c : Nat}
/-- one sign, repeated any number of times -/
theorem b_repZ (h2 : 0 ≤ i) (hi : i ≤ 1000) : BinD X S (binaryOp .Mult) (st [c]) (.int i) (st (List.replicate i.toNat c)) := by
  by_cases z : 2 ≤ i
  · have := b_repS (X := X) (S := S) (l := [c]) z hi (by simp) (by simp)
    have e : (List.replicate i.toNat [c]).flatten = List.replicate i.toNat c := by
      generalize i.toNat = n
      induction n with
      | zero => rfl
      | succ n ih => rw [List.replicate_succ, List.flatten_cons, ih]; rfl
    rw [e] at this
    exact this
  · intro pins s σ H x y u w Q I rx ry ⟨M, _, q, K⟩
    obtain ⟨x', y', e, q1, q2⟩ := q.two
    cases e
    cases q1
    cases q2
    obtain ⟨t, rfl⟩ := rx
    obtain ⟨t', rfl⟩ := ry
    refine PySem.P.mul_str ?_ (fun n1 n2 => ?_) (fun n1 n2 => ?_) ?_
    · have a1 : ¬ i < -(2 ^ 63 : Int) := by omega
      have a2 : ¬ i ≥ 2 ^ 63 := by omega
      rw [decide_eq_false a1, decide_eq_false a2]; rfl
    · have : i = 1 := by omega
      subst this
      cases n2
    · have : i = 1 := by omega
      subst this
      cases n2
    · have : i = 0 ∨ i = 1 := by omega
      rcases this with rfl | rfl
      · rw [if_pos (by decide)]
        exact ⟨by decide, V.str _, H, I.tok _, ⟨_, rfl⟩, K _ H (Same.refl H) (.str _)⟩
      · rw [if_neg (by decide)]
        show (Made.val (Value.str (tx [c]) t)).post (EP X pins σ Q) s
        exact ⟨V.str _, H, I, ⟨_, rfl⟩, K _ H (Same.refl H) (.str _)⟩
/-- a text twice -/
theorem b_twice {l : List Nat} (hl : l.length ≤ 20000) (h0 : l ≠ []) : BinD X S (binaryOp .Mult) (st l) (.int 2) (st (l ++ l)) := by
  intro pins s σ H x y u w Q I rx ry ⟨M, _, q, K⟩
  obtain ⟨x', y', e, q1, q2⟩ := q.two
  cases e
  cases q1
  cases q2
  obtain ⟨t, rfl⟩ := rx
  obtain ⟨t', rfl⟩ := ry
  have n2 : ((2 : Int) == 1 || (tx l).length == 0) = false := by
    rw [SX.S_len]
    have a2 : (l.length == 0) = false := by simp; exact h0
    rw [a2]; rfl
  refine PySem.P.mul_str (by rfl) (fun _ _ => ?_) (fun _ _ => ?_) ?_
  · rw [SX.S_len]
    have : (20000 : Int) ≤ (2 ^ 63 - 1) / 2 := by decide
    omega
  · rw [SX.S_len]
    have := line_of (n := l.length * 2) (by omega)
    exact decide_eq_false (by show ¬ l.length * 2 > sizeLine; omega)
  · rw [if_neg (by decide), n2, if_neg Bool.false_ne_true]
    have e : (⟨(List.replicate (Int.toNat 2) (tx l).cps).foldl (· ++ ·) #[]⟩ : Str) = tx (l ++ l) := by
      refine TL.ext_tl ?_
      show ((#[] ++ (tx l).cps) ++ (tx l).cps).toList = l ++ l
      simp
    rw [e]
    refine ⟨?_, ⟨V.str (tx (l ++ l)), H, I.tok _, ⟨_, rfl⟩, K _ H (Same.refl H) (.str _)⟩⟩
    rw [SX.S_len, List.length_append]
    exact line_of (by omega)
end
end Fw

set_option Elab.async false
set_option linter.all false
set_option maxRecDepth 100000
set_option maxHeartbeats 4000000
namespace Fw
open PySem L2 PyProof.Rows
/-! ### instances whose field is a new list -/
/-- a promise of something new is a promise of the thing -/
theorem sp_new {P : Program} {w : World} {K : PySem.W.Frag} {mg : Str → Option Value} {base : Heap} {CX : CXT} {S : Sg} {k n : Nat} {f : Addr} {fd : FuncData} {ps : List Str} {R R' : List D → Out → Prop} (F : FnOk P w K mg base CX k f fd ps (spOf S n R)) (h : ∀ ds o, R' ds o → R ds o ∨ ∃ d, o = .ok d ∧ R ds (.new d)) : FnOk P w K mg base CX k f fd ps (spOf S n R') :=
  F.imp fun vs H Q E ⟨hl, M, ds, o, tr, r, hR, kk⟩ => by
    rcases h ds o hR with z | ⟨d, rfl, z⟩
    · exact ⟨hl, M, ds, o, tr, r, z, kk⟩
    · exact ⟨hl, M, ds, .new d, tr, r, z, fun p H' hp e nw => kk _ H' e (nw.rep fun m => tr p m hp)⟩
/-- all lists of the heap H0 are hidden -/
def lstH (H0 H : Hp) : Hp := fun b => match H0 b with | some (.lst _) => none | _ => H b
theorem lstH_some {H0 H : Hp} {b : Addr} {o : HO} (h : lstH H0 H b = some o) : (∀ xs, H0 b ≠ some (.lst xs)) ∧ H b = some o := by
  unfold lstH at h
  split at h
  · cases h
  · rename_i z
    exact ⟨fun xs e => z xs e, h⟩
theorem lstH_of {H0 H : Hp} {b : Addr} {o : HO} (h : H b = some o) (hn : ∀ xs, H0 b ≠ some (.lst xs)) : lstH H0 H b = some o := by
  unfold lstH
  split
  · rename_i xs z
    exact absurd z (hn xs)
  · exact h
section
variable {S : Sg} {G1 G2 : Hp}
mutual
/-- data without lists stand in a heap that has the same but lists -/
theorem Rep.pureTo (h : ∀ b u, G1 b = some u → (∀ ys, u ≠ .lst ys) → G2 b = some u) : ∀ {v : V} {d : D}, Rep S G1 v d → pureD d = true → Rep S G2 v d
  | _, _, .non, _ => .non
  | _, _, .bl b, _ => .bl b
  | _, _, .int i, _ => .int i
  | _, _, .str x, _ => .str x
  | _, _, .tup hq r, q => .tup (hq.imp (fun z => z.elim (fun z => .inl (h _ _ z (fun ys e => nomatch e))) fun ⟨o', z⟩ => .inr ⟨o', h _ _ z (fun ys e => nomatch e)⟩) id) (Reps.pureTo h r (pure_tup q))
  | _, _, .lst hq r, q => (pure_lst q).elim
  | _, _, .pt hs hx hy ho, _ => .pt (hs.elim (fun z => .inl ⟨h _ _ z.1 (fun ys e => nomatch e), z.2⟩) fun z => .inr ⟨h _ _ z.1 (fun ys e => nomatch e), h _ _ z.2 (fun ys e => nomatch e)⟩) hx hy ho
  | _, _, .obj hq r, q => (pure_obj q).elim
theorem Reps.pureTo (h : ∀ b u, G1 b = some u → (∀ ys, u ≠ .lst ys) → G2 b = some u) : ∀ {vs : List V} {ds : List D}, Reps S G1 vs ds → pureDs ds = true → Reps S G2 vs ds
  | _, _, .nil, _ => .nil
  | _, _, .cons r t, q => .cons (Rep.pureTo h r (pure_cons q).1) (Reps.pureTo h t (pure_cons q).2)
end
end
/-- the promise of a making: the one field is a new list -/
def spObN (S : Sg) (c n : Nat) (f : Str) (R : List D → List D → Prop) : Sp := fun vs H Q E => ∃ a dx ws M ds es, vs = .ref a :: ws ∧ ws.length + 1 = n ∧ dx ≠ a ∧ a ∉ M ∧ H a = some (.ins (S.cO c) dx []) ∧ (∀ b ∈ M, H b ≠ none) ∧ Reps S (hid (a :: M) H) ws ds ∧ R ds es ∧
  ∀ ws' H', Same (hid [a] H) H' → H' a = some (.ins (S.cO c) dx ws') → RepF S (lstH H (hid (a :: M) H')) ws' [(f, .lst es)] → Q .non H'
def spMutN (S : Sg) (c n : Nat) (f : Str) (R : List D → List D → Prop) : Sp := fun vs H Q E => ∃ a dx ws0 ws M d0 ds es, vs = .ref a :: ws ∧ ws.length + 1 = n ∧ a ∉ M ∧ H a = some (.ins (S.cO c) dx ws0) ∧ (∀ b ∈ M, H b ≠ none) ∧ RepF S (hid (a :: M) H) ws0 [(f, d0)] ∧ Reps S (hid (a :: M) H) ws ds ∧ R ds es ∧
  ∀ ws' H', Same (hid [a] H) H' → H' a = some (.ins (S.cO c) dx ws') → RepF S (lstH H (hid (a :: M) H')) ws' [(f, .lst es)] → Q .non H'
section
variable {X : Cx} {W : Wd} {S : Sg} {U : WX} {k j : Nat} {g : En} {P : Po} {e fe : Expr} {es : List Expr} {d d0 : D} {ds dd xs ys : List D} {x y f m : Str} {fns : List Str} {i i2 n c : Nat} {pos p p2 apos cpos : Pos} {a dx : Addr} {N ps : List Str} {qual : Str} {st : Stmt} {fa : Addr} {fd : FuncData} {dvs : List V} {R : List D → List D → Prop}
/-- self.f = e, e a new list, and what is then known -/
theorem fld_new {p0 p1 : Pos} {fs : List (Str × D)} (N0 : Nm X 0 y) (C : Kb X W S) (OC : ObC W S c x fns) (hm : f ∈ fns) (he : XF X S (.ob a dx c fs :: g) e (.lst ys)) (hz : fs.length < 1000) (hs : swapsWith e (some (.Attribute (.Name y p0) f p1)) pos.line X.env = pure false) :
    PSs X [.Assign [.Attribute (.Name y p0) f p1] e pos] fun E t H => ∃ B M ws, Stt S B M (.ob a dx c fs :: g) t H ∧ H a = some (.ins (S.cO c) dx ws) ∧ ∀ q H1, H q = none → Same H H1 → NewAt S M H1 q (.lst ys) → E.nx t (upd H1 a (.ins (S.cO c) dx (putF f (.ref q) ws))) := by
  refine psbI (pss_cons (ps_fld (pe_var N0.n N0.vis N0.dbg N0.cdt) he hs) pss_nil) fun E σ H ⟨B, M, ws, st, hl, kk⟩ => ⟨B, M, st, fun q H1 hq e1 nw => ?_⟩
  have st1 := st.mono e1
  obtain ⟨o, ho, ee, hm', h0, ws1, hl', rr⟩ := st1.sl 0 _ rfl
  have hl2 := e1 _ _ hl
  rw [hl2] at hl'
  obtain rfl : ws1 = ws := by
    have := Option.some.inj hl'
    injection this with _ _ e3
    exact e3.symm
  exact ⟨.ref a, by rw [ho, ee], a, _, dx, ws1, rfl, hl2, by rw [C.kw]; exact OC.cls, by rw [C.kw]; exact OC.nof f hm, by rw [rr.length]; exact hz, kk q H1 hq e1 nw⟩
theorem new_fields {H H1 : Hp} {M : List Addr} {q : Addr} {ws : List (Str × V)} (hp : pureDs ys = true) (ha : H a ≠ none) (tr : ∀ b ∈ M, H b ≠ none) (hq : H q = none) (e1 : Same H H1) (nw : NewAt S (a :: M) H1 q (.lst ys)) (hw : putF f (.ref q) ws = [(f, .ref q)]) :
    Same (hid [a] H) (upd H1 a (.ins (S.cO c) dx (putF f (.ref q) ws))) ∧ RepF S (lstH H (hid (a :: M) (upd H1 a (.ins (S.cO c) dx (putF f (.ref q) ws))))) (putF f (.ref q) ws) [(f, .lst ys)] := by
  obtain ⟨vs, hl, r⟩ := nw
  rw [hw]
  have qa : q ≠ a := fun z => ha (z ▸ hq)
  have qM : q ∉ a :: M := fun z => by
    rcases List.mem_cons.mp z with z | z
    · exact qa z
    · exact tr q z hq
  refine ⟨fun b u hb => ?_, .cons (.lst (SqL.of (lstH_of (hid_of qM (by rw [upd_ne qa]; exact hl)) fun xs z => by rw [hq] at z; cases z)) (Reps.pureTo (fun b u hb hn => ?_) r hp)) .nil⟩
  · obtain ⟨h1, h2⟩ := hid_some hb
    rw [upd_ne fun z => h1 (by rw [z]; exact List.mem_cons_self)]
    exact e1 _ _ h2
  · obtain ⟨h1, h2⟩ := hid_some hb
    have ba : b ≠ a := fun z => h1 (by rw [z]; exact List.mem_cons_of_mem _ List.mem_cons_self)
    refine lstH_of (hid_of (fun z => h1 (List.mem_cons_of_mem _ z)) (by rw [upd_ne ba]; exact h2)) fun xs z => ?_
    have := e1 _ _ z
    rw [h2] at this
    exact hn xs (Option.some.inj this)
theorem ob_initN {p0 p1 : Pos} (F : Fd W.K x qual st dvs fa fd) (hK : W.K = S.K) (sc : FnScope N ps (defScope st)) (hbd : defBody st = [.Assign [.Attribute (.Name y p0) f p1] e pos])
    (hpr : ∀ ds ys, R ds ys → pureDs ys = true)
    (body : ∀ (X : Cx) (U : WX) (a dx : Addr) (ds ys : List D), InB X W S k N (defScope st) U → R ds ys → Nm X 0 y ∧ (∃ x fns, ObC W S c x fns ∧ f ∈ fns) ∧ XF X S (.ob a dx c [] :: enOf N.tail.length ds) e (.lst ys) ∧ swapsWith e (some (.Attribute (.Name y p0) f p1)) pos.line X.env = pure false) :
    FnOk W.P W.w W.K W.mg W.base (L2N.CX W.P W.w) (k + 1) fa fd ps (spObN S c ps.length f R) := by
  obtain ⟨oc, od, dV, kV, doc, pm, an, cdv, ct, osl, rfl, lk, hcd, _, _⟩ := F.ex
  refine fn_of lk hcd sc (fun vs H Q E ⟨_, _, _, _, _, _, e, hl, _⟩ => by rw [e, List.length_cons, hl]) (fun A outer s H vs Q E hr h => ?_)
  obtain ⟨a, dx, ws, M, ds, ys, rfl, hl, ne, haM, ha, tr, rr, hR, ho⟩ := h
  have key : ∀ (X : Cx) (U : WX), InB X W S k N (defScope st) U → PSs X (defBody st) fun E t H => ∃ B M ws, Stt S B M (.ob a dx c [] :: enOf N.tail.length ds) t H ∧ H a = some (.ins (S.cO c) dx ws) ∧ ∀ q H1, H q = none → Same H H1 → NewAt S M H1 q (.lst ys) → E.nx t (upd H1 a (.ins (S.cO c) dx (putF f (.ref q) ws))) := fun X U b => by
    obtain ⟨N0, ⟨x', fns, OC, hm⟩, he, hsw⟩ := body X U a dx ds ys b hR
    rw [hbd]
    exact fld_new N0 b.C.toKb OC hm he (Nat.succ_pos _) hsw
  have hpu : pureDs ys = true := hpr ds ys hR
  refine ⟨_, (key _ (fun cls d _ H => E cls d H) ⟨⟨⟨rfl, hK, passes_of rfl, sc.nd⟩, rfl, rfl, fun _ => rfl⟩, ⟨⟨rfl, hK, passes_of rfl, sc.nd⟩, rfl, hr⟩, L2N.takes_of rfl rfl rfl rfl, rfl, rfl⟩), ?_⟩
  have ha0 : hid [a] H a = none := by unfold hid; rw [if_pos List.mem_cons_self]
  refine ⟨⟨hid [a] H, M, fun _ => True, fun _ _ _ _ => trivial⟩, a :: M, [], stt_start1 hid_le (fun b hb => List.mem_cons_of_mem _ hb) (fun b hb => ?_) (fun b hb => ?_) trivial ⟨rfl, List.mem_cons_self, ha0, [], ha, .nil⟩ rr, ha, fun q H1 hq e1 nw => ?_⟩
  · rcases List.mem_cons.mp hb with z | z
    · rw [z]; exact .inr ha0
    · exact .inl z
  · rcases List.mem_cons.mp hb with z | z
    · rw [z, ha]; exact fun z => nomatch z
    · exact tr b z
  · obtain ⟨h1, h2⟩ := new_fields (c := c) (dx := dx) (f := f) (ws := []) hpu (by rw [ha]; exact fun z => nomatch z) tr hq e1 nw rfl
    exact ho _ _ h1 upd_same h2
theorem ob_setN {p0 p1 : Pos} (F : Fd W.K x qual st dvs fa fd) (hK : W.K = S.K) (sc : FnScope N ps (defScope st)) (hbd : defBody st = [.Assign [.Attribute (.Name y p0) f p1] e pos])
    (hpr : ∀ ds ys, R ds ys → pureDs ys = true)
    (body : ∀ (X : Cx) (U : WX) (a dx : Addr) (d0 : D) (ds ys : List D), InB X W S k N (defScope st) U → R ds ys → Nm X 0 y ∧ (∃ x fns, ObC W S c x fns ∧ f ∈ fns) ∧ XF X S (.ob a dx c [(f, d0)] :: enOf N.tail.length ds) e (.lst ys) ∧ swapsWith e (some (.Attribute (.Name y p0) f p1)) pos.line X.env = pure false) :
    FnOk W.P W.w W.K W.mg W.base (L2N.CX W.P W.w) (k + 1) fa fd ps (spMutN S c ps.length f R) := by
  obtain ⟨oc, od, dV, kV, doc, pm, an, cdv, ct, osl, rfl, lk, hcd, _, _⟩ := F.ex
  refine fn_of lk hcd sc (fun vs H Q E ⟨_, _, _, _, _, _, _, _, e, hl, _⟩ => by rw [e, List.length_cons, hl]) (fun A outer s H vs Q E hr h => ?_)
  obtain ⟨a, dx, ws0, ws, M, d0, ds, ys, rfl, hl, haM, ha, tr, rf0, rr, hR, ho⟩ := h
  have key : ∀ (X : Cx) (U : WX), InB X W S k N (defScope st) U → PSs X (defBody st) fun E t H => ∃ B M ws, Stt S B M (.ob a dx c [(f, d0)] :: enOf N.tail.length ds) t H ∧ H a = some (.ins (S.cO c) dx ws) ∧ ∀ q H1, H q = none → Same H H1 → NewAt S M H1 q (.lst ys) → E.nx t (upd H1 a (.ins (S.cO c) dx (putF f (.ref q) ws))) := fun X U b => by
    obtain ⟨N0, ⟨x', fns, OC, hm⟩, he, hsw⟩ := body X U a dx d0 ds ys b hR
    rw [hbd]
    exact fld_new N0 b.C.toKb OC hm he (by show 1 < 1000; decide) hsw
  have hpu : pureDs ys = true := hpr ds ys hR
  refine ⟨_, (key _ (fun cls d _ H => E cls d H) ⟨⟨⟨rfl, hK, passes_of rfl, sc.nd⟩, rfl, rfl, fun _ => rfl⟩, ⟨⟨rfl, hK, passes_of rfl, sc.nd⟩, rfl, hr⟩, L2N.takes_of rfl rfl rfl rfl, rfl, rfl⟩), ?_⟩
  have ha0 : hid [a] H a = none := by unfold hid; rw [if_pos List.mem_cons_self]
  have rf1 := rf0
  cases rf0 with
  | cons r t =>
    cases t with
    | nil =>
      refine ⟨⟨hid [a] H, M, fun _ => True, fun _ _ _ _ => trivial⟩, a :: M, _, stt_start1 hid_le (fun b hb => List.mem_cons_of_mem _ hb) (fun b hb => ?_) (fun b hb => ?_) trivial ⟨rfl, List.mem_cons_self, ha0, _, ha, rf1⟩ rr, ha, fun q H1 hq e1 nw => ?_⟩
      · rcases List.mem_cons.mp hb with z | z
        · rw [z]; exact .inr ha0
        · exact .inl z
      · rcases List.mem_cons.mp hb with z | z
        · rw [z, ha]; exact fun z => nomatch z
        · exact tr b z
      · obtain ⟨h1, h2⟩ := new_fields (c := c) (dx := dx) (f := f) (ws := [(f, _)]) hpu (by rw [ha]; exact fun z => nomatch z) tr hq e1 nw (by unfold putF; rw [if_pos rfl])
        exact ho _ _ h1 upd_same h2
structure ObIN (W : Wd) (S : Sg) (c : Nat) (x : Str) (k n : Nat) (f : Str) (R : List D → List D → Prop) : Prop where
  gC : W.mg x = some (.ref (S.cO c))
  ex : ∃ q fd ps, Mk W.K (S.cO c) q ∧ FnOk W.P W.w W.K W.mg W.base (L2N.CX W.P W.w) k q fd ps (spObN S c ps.length f R) ∧ ps.length = n + 1 ∧ Binds W.K fd ps []
/-- x = C(l): a new instance whose field is not the list l of one's own -/
theorem s_asgObN {xs : List D} {cp py : Pos} (C : Cc X W S k) (Ny : Nl X i y) (F : ObIN W S c x j n f R) (G : Ng X x) (hi2 : g[i2]? = some (.own xs)) (ha : XA X S (g.set i2 (.v (.lst xs))) (e :: es) ds) (hR : R ds ys) (h : ∀ a dx, P.nx (g.set i (.ob a dx c [(f, .lst ys)]))) (hn : ds.length = n := by rfl) (hj : j + 1 ≤ k := by decide)
    (he : starEach (e :: es) X.env = (false, eval e X.env) :: starEach es X.env := by rfl) (hpl : (backTo cp (starEach es X.env)).any (·.1) = false := by rfl)
    (hs : swapsWith (.Call (.Name x p) (e :: es) [] cp) (some (.Name y py)) pos.line X.env = pure false := by rfl) : XS X S U g (.Assign [.Name y py] (.Call (.Name x p) (e :: es) [] cp) pos) P := by
  have key : PE X (.Call (.Name x p) (e :: es) [] cp) fun t H Q => ∃ B M, Stt S B M g t H ∧ ∀ q dx ws H1, H q = none → Same H H1 → H1 q = some (.ins (S.cO c) dx ws) → RepF S (hid (q :: M) H1) ws [(f, .lst ys)] → Q (.ref q) H1 := by
    obtain ⟨fI, fd, ps, mk, F1, hl, hb⟩ := F.ex
    have gC := F.gC
    obtain ⟨⟨w1, w2, c3, c4⟩, c1, c2⟩ := C
    subst w1
    refine ⟨fun pins s σ H Q I w => ?_⟩
    obtain ⟨B, M, st0, kk⟩ := w
    obtain ⟨M', l, vl, hM, hll, st⟩ := st0.viewOwn hi2
    refine PyProof.Rows.Call_ (thn ((pe_glob (v := .ref (S.cO c)) G.gl gC rfl G.dbg).run pins s σ H (fun v H1 => v = .ref (S.cO c) ∧ H1 = H) I ⟨rfl, rfl⟩) fun u s0 ⟨v, H0, I0, rx, e3, e4⟩ => ?_) (by rfl)
    subst e3
    subst e4
    obtain rfl : u = Value.ref (S.cO c) := rx
    refine PySem.W.callWith_K (h₀ := X.base) I.ok.mod.kin mk.kp (wpAny_mono (ha.run cp pins s0 σ H0 (fun vs H1 => Same H0 H1 ∧ Reps S (hid M' H1) vs ds) I0 ⟨B0, M', st, fun vs H1 e1 r => ⟨e1, r⟩⟩) (fun ws s1 w => ?_) fun _ _ z => z) he hpl
    obtain ⟨vs, H1, I1, r1, e1, rr⟩ := w
    have st1 := st.mono e1
    have hl1 := e1 _ _ hll
    refine ⟨I1.kIn, made_run (U := fun _ _ _ _ => False) mk F1 (c2.mono hj) hb .nil takes0 I1 r1 fun a dx ha hdx ne => ?_⟩
    have hs : Same H1 (hid [a] (upd (upd H1 dx (.own a)) a (.ins (S.cO c) dx []))) := fun b u hb => by
      have n1 := ne_of_none hb ha
      have n2 := ne_of_none hb hdx
      refine hid_of (fun z => n1 (List.mem_singleton.mp z)) (by rw [upd_ne n1, upd_ne n2]; exact hb)
    refine ⟨a, dx, vs, M', ds, ys, by rw [List.append_nil], by rw [rr.length]; omega, ne, st1.nm ha, upd_same, fun b hb => ?_, rr.mono (fun b u hb => ?_), hR, fun ws H2 e2 hl2 rf => ⟨rfl, kk a dx ws H2 (e1.free ha) (e1.trans (hs.trans e2)) hl2 (rf.mono fun b u hb => ?_)⟩⟩
    · have q := st1.trk b hb
      have n1 : b ≠ a := fun z => q (z ▸ ha)
      have n2 : b ≠ dx := fun z => q (z ▸ hdx)
      rw [upd_ne n1, upd_ne n2]
      exact q
    · obtain ⟨h1, h2⟩ := hid_some hb
      have n1 := ne_of_none h2 ha
      have n2 := ne_of_none h2 hdx
      refine hid_of (fun z => ?_) (by rw [upd_ne n1, upd_ne n2]; exact h2)
      rcases List.mem_cons.mp z with z | z
      · exact n1 z
      · exact h1 z
    · obtain ⟨h0, h1⟩ := lstH_some hb
      obtain ⟨h2, h3⟩ := hid_some h1
      refine hid_of (fun z => ?_) h3
      rcases List.mem_cons.mp z with z | z
      · exact h2 (by rw [z]; exact List.mem_cons_self)
      · rcases List.mem_cons.mp (hM b z) with w | w
        · rw [w] at h0
          have n1 := ne_of_none hl1 ha
          have n2 := ne_of_none hl1 hdx
          exact h0 vl (by rw [upd_ne n1, upd_ne n2]; exact hl1)
        · exact h2 (List.mem_cons_of_mem _ w)
  exact psI (ps_set C.nd Ny.n Ny.loc key hs Ny.fn) fun E σ H ⟨B, M, st, ct, _⟩ => ⟨B, M, st, fun q dx ws H1 hq e1 hl r => ct.nx _ _ _ H1 (h q dx) (st.setOb i hq e1 hl r)⟩
structure MutN (W : Wd) (S : Sg) (c : Nat) (m : Str) (k n : Nat) (f : Str) (R : List D → List D → Prop) : Prop where
  ex : ∃ q fd ps, Meth W.K (S.cO c) m q ∧ FnOk W.P W.w W.K W.mg W.base (L2N.CX W.P W.w) k q fd ps (spMutN S c ps.length f R) ∧ ps.length = n ∧ Binds W.K fd ps []
/-- what a run of such a def asks, from a state in which a list of one's own is seen -/
theorem mutN_sp {xs : List D} {B : Bs} {M : List Addr} {t : L2.St} {H1 H : Hp} {ws : List V} {Q : VK} {E : L2.XK} (st : Stt S B M g t H1) (hi : g[i]? = some (.ob a dx c [(f, d0)])) (hi2 : g[i2]? = some (.own xs)) (e2 : Same H1 H) {M' : List Addr} {l : Addr} {vl : List V} (hM : ∀ b, b ∈ M → b ∈ l :: M') (hll : H1 l = some (.lst vl)) (st' : Stt S B0 M' (g.set i2 (.v (.lst xs))) t H1) (hne : i2 ≠ i)
    (r : Reps S (hid M' H) ws ds) (hl : ws.length + 1 = n) (hR : R ds ys) (kk : ∀ H', Stt S B M (g.set i (.ob a dx c [(f, .lst ys)])) t H' → Q .non H') : spMutN S c n f R (.ref a :: ws) H Q E := by
  have stm := st'.mono e2
  obtain ⟨o, ho, ee, hm, h0, ws0, hl0, rr⟩ := stm.sl i (.ob a dx c [(f, d0)]) (by rw [List.getElem?_set_ne hne]; exact hi)
  have hmem : ∀ b, b ∈ M' ↔ b ∈ a :: M'.filter (fun b => decide (b ≠ a)) := fun b => by
    by_cases z : b = a
    · subst z; exact ⟨fun _ => List.mem_cons_self, fun _ => hm⟩
    · refine ⟨fun w => List.mem_cons_of_mem _ (List.mem_filter.mpr ⟨w, decide_eq_true z⟩), fun w => ?_⟩
      rcases List.mem_cons.mp w with w | w
      · exact absurd w z
      · exact (List.mem_filter.mp w).1
  refine ⟨a, dx, ws0, ws, M'.filter (fun b => decide (b ≠ a)), d0, ds, ys, rfl, hl, fun z => by have := (List.mem_filter.mp z).2; simp at this, hl0, fun b hb => stm.trk b (List.mem_filter.mp hb).1, ?_, ?_, hR, fun ws' H' e hl' r' => kk H' ((st.mono e2).mut hi e hl' (r'.mono fun b u hb => ?_))⟩
  · rw [← hid_same_mem hmem]; exact rr
  · rw [← hid_same_mem hmem]; exact r
  · obtain ⟨h0, h1⟩ := lstH_some hb
    obtain ⟨h2, h3⟩ := hid_some h1
    refine hid_of (fun z => ?_) h3
    rcases List.mem_cons.mp (hM b z) with w | w
    · rw [w] at h0
      exact h0 vl (e2 _ _ hll)
    · exact h2 ((hmem b).mp w)
/-- o.m(l) changes an instance of one's own; its field is not the list l of one's own -/
theorem m_new {xs : List D} {pl : Sem Bool} (C : Cc X W S k) (OC : ObC W S c y fns) (F : MutN W S c m j n f R) (Nx : Nm X i x) (hi : g[i]? = some (.ob a dx c [(f, d0)])) (hi2 : g[i2]? = some (.own xs)) (hne : i2 ≠ i) (hlm : List.lookup m [(f, d0)] = none) (ha : XA X S (g.set i2 (.v (.lst xs))) (e :: es) ds) (hR : R ds ys) (hn : ds.length + 1 = n := by rfl) (hj : j ≤ k := by decide)
    (hst : starEach (e :: es) X.env = (false, eval e X.env) :: starEach es X.env := by rfl) (hpl : (backTo cpos (starEach es X.env)).any (·.1) = false := by rfl)
    (ht : eval (.Call (.Attribute (.Name x p) m apos) (e :: es) [] cpos) X.env = (do
      let ov ← eval (.Name x p) X.env
      standAt apos.atName
      let (f, first) ← holding [ov] (getMethod ov m pl)
      callWith cpos f first (backTo cpos (starEach (e :: es) X.env)) (backToKw cpos (keywordEach [] X.env))) := by rfl) :
    PE X (.Call (.Attribute (.Name x p) m apos) (e :: es) [] cpos) fun t H Q => ∃ B M, Stt S B M g t H ∧ ∀ H', Stt S B M (g.set i (.ob a dx c [(f, .lst ys)])) t H' → Q .non H' := by
  obtain ⟨q, fd, ps, hq, F1, hl, hb⟩ := F.ex
  have hcl := OC.cls
  have Kx : X.K = W.K := C.kw
  rw [← Kx] at hcl hq
  obtain ⟨⟨w1, w2, c3, c4⟩, c1, c2⟩ := C
  subst w1
  refine ⟨fun pins s σ H Q I w => ?_⟩
  obtain ⟨B, M, st, kk⟩ := w
  obtain ⟨o, ho, ee, hm, h0, ws0, hl0, rr⟩ := st.sl i _ hi
  obtain ⟨M', l, vl, hM, hll, st'⟩ := st.viewOwn hi2
  refine PySem.W.methodCall_KW (pl := pl) (thn ((pe_var (pos := p) Nx.n Nx.vis Nx.dbg Nx.cdt).run pins s σ H (fun v H1 => v = .ref a ∧ H1 = H) I ⟨.ref a, by rw [ho, ee], rfl, rfl⟩) fun u s1 ⟨v, H1, I1, rx, ev, eh⟩ => ?_) ht
  subst ev
  subst eh
  obtain rfl : u = Value.ref a := rx
  refine getmeth_ok I1 hl0 hcl hq (rr.lookN hlm) ?_
  refine PySem.W.callWith_K (first := [.ref a]) (h₀ := X.base) I.ok.mod.kin hq.kp (thn (ha.run cpos pins s1 σ H1 (fun vs H2 => Same H1 H2 ∧ Reps S (hid M' H2) vs ds) I1 ⟨B0, M', st', fun vs H2 e2 r2 => ⟨e2, r2⟩⟩) fun us s2 ⟨vs, H2, I2, r2, e2, rs⟩ => ⟨I2.kIn, ?_⟩) hst hpl
  exact run_SR (U := fun _ _ _ _ => False) (vs := .ref a :: vs) (ws := .ref a :: us) (fnr_of F1 hb) (c2.mono hj) takes0 I2 (.cons rfl r2) (mutN_sp st hi hi2 e2 hM hll st' hne rs (by rw [rs.length, hl, ← hn]) hR kk)
/-! tests that change an instance -/
def XTm (X : Cx) (S : Sg) (g : En) (e : Expr) (b : Bool) (g' : En) : Prop := PT X e fun t H Q => ∃ B M, Stt S B M g t H ∧ ∀ H', Stt S B M g' t H' → Q b H'
def XWm (X : Cx) (S : Sg) (g : En) (e : Expr) (b : Bool) (g' : En) : Prop := PW X e fun t H Q => ∃ B M, Stt S B M g t H ∧ ∀ H', Stt S B M g' t H' → Q b H'
theorem t_isnotM {g' : En} {kk : Nat} {cp : Pos} (h : PE X e fun t H Q => ∃ B M, Stt S B M g t H ∧ ∀ H', Stt S B M g' t H' → Q .non H') : XTm X S g (.Compare e [.IsNot] [.Constant .none kk cp] pos) false g' :=
  ptI (pt_cmpR (c_isnotN (X := X) (S := S) (d := .non)) h (e_non (S := S) (g := g')) (by first | exact nomark _ | with_unfolding_all rfl)) fun σ H Q ⟨B, M, st, k⟩ => ⟨B, M, st, fun H1 st1 => ⟨B, M, st1, fun u H2 e2 r2 => ⟨M, (st1.mono e2).trk, .cons .non (.cons r2 .nil), fun w H3 e3 r3 => by
    cases r3
    exact ⟨false, rfl, k H3 (st1.mono (e2.trans e3))⟩⟩⟩⟩
theorem w_orM {g' : En} {e2 : Expr} {b2 : Bool} (h1 : XTm X S g e false g') (h2 : XW X S g' (.BoolOp .Or (e2 :: es) pos) b2) : XWm X S g (.BoolOp .Or (e :: e2 :: es) pos) b2 g' :=
  pwI (pw_or h1 h2) fun σ H Q ⟨B, M, st, k⟩ => ⟨B, M, st, fun H1 st1 => by refine iteF ?_; exact ⟨B, M, st1, fun H2 e2 => k H2 (st1.mono e2)⟩⟩
theorem t_wM {g' : En} {b : Bool} (h : XWm X S g e b g') : XTm X S g e b g' := h.pt
theorem s_ifM {g' : En} {b : Bool} {body orelse : List Stmt} (ht : XTm X S g e b g') (h1 : b = true → XB X S U g' body P) (h2 : b = false → XB X S U g' orelse P) : XS X S U g (.If e body orelse pos) P := by
  cases b with
  | true => exact psI (ps_if ht (h1 rfl) (pss_never (sts := orelse))) fun E σ H ⟨B, M, st, c, x⟩ => ⟨B, M, st, fun H1 st1 => by refine iteT ?_; exact ⟨B, M, st1, c, x⟩⟩
  | false => exact psI (ps_if ht (pss_never (sts := body)) (h2 rfl)) fun E σ H ⟨B, M, st, c, x⟩ => ⟨B, M, st, fun H1 st1 => by refine iteF ?_; exact ⟨B, M, st1, c, x⟩⟩
/-- what a class says of a property that may be set, its field a new list -/
structure SetPN (W : Wd) (S : Sg) (c : Nat) (f2 : Str) (k : Nat) (f : Str) (R : List D → List D → Prop) : Prop where
  ex : ∃ p q v rest fd ps, PySem.W.takerIn W.K (S.cO c) f2 = some (some (.ref p)) ∧ PySem.W.typeIn W.K (.ref p) = some (.type "property") ∧ PySem.W.recIn W.K p "property" = some (v :: .ref q :: rest) ∧ FnOk W.P W.w W.K W.mg W.base (L2N.CX W.P W.w) k q fd ps (spMutN S c ps.length f R) ∧ ps.length = 2 ∧ Binds W.K fd ps []
theorem set_prop_new {f2 x2 : Str} {p0 p1 p3 : Pos} (C : Cc X W S k) (OC : ObC W S c x fns) (F : SetPN W S c f2 j f R) (N0 : Nm X 0 y) (N1 : Nm X 1 x2) (hj : j + 2 ≤ k) (hs : swapsWith (.Name x2 p3) (some (.Attribute (.Name y p0) f2 p1)) pos.line X.env = pure false) :
    PSs X [.Assign [.Attribute (.Name y p0) f2 p1] (.Name x2 p3) pos] fun E t H => ∃ a dx M ws0 d0 d1 ys v, t[0]? = some (some (.ref a)) ∧ t[1]? = some (some v) ∧ a ∉ M ∧ H a = some (.ins (S.cO c) dx ws0) ∧ (∀ b ∈ M, H b ≠ none) ∧ RepF S (hid (a :: M) H) ws0 [(f, d0)] ∧ Rep S (hid (a :: M) H) v d1 ∧ R [d1] ys ∧
      ∀ ws' H', Same (hid [a] H) H' → H' a = some (.ins (S.cO c) dx ws') → RepF S (lstH H (hid (a :: M) H')) ws' [(f, .lst ys)] → E.nx t H' := by
  obtain ⟨pp, q, v0, rest, fd, ps, h1, h2, h3, F1, hl, hb⟩ := F.ex
  have hcl := OC.cls
  obtain ⟨⟨w1, w2, c3, c4⟩, c1, c2⟩ := C
  subst w1
  have key : PS X (.Assign [.Attribute (.Name y p0) f2 p1] (.Name x2 p3) pos) fun E t H => ∃ a dx M ws0 d0 d1 ys v, t[0]? = some (some (.ref a)) ∧ t[1]? = some (some v) ∧ a ∉ M ∧ H a = some (.ins (S.cO c) dx ws0) ∧ (∀ b ∈ M, H b ≠ none) ∧ RepF S (hid (a :: M) H) ws0 [(f, d0)] ∧ Rep S (hid (a :: M) H) v d1 ∧ R [d1] ys ∧
      ∀ ws' H', Same (hid [a] H) H' → H' a = some (.ins (S.cO c) dx ws') → RepF S (lstH H (hid (a :: M) H')) ws' [(f, .lst ys)] → E.nx t H' := by
    refine ⟨fun pins s σ H E I w => ?_⟩
    obtain ⟨a, dx, M, ws0, d0, d1, ys, v, t0, t1, haM, hl0, tr, rf, rv1, hR, kk⟩ := w
    refine plainObj_wpAny_Assign_Attribute (thn ((pe_var (pos := p3) N1.n N1.vis N1.dbg N1.cdt).run pins s σ H (fun v' H1 => v' = v ∧ H1 = H) I ⟨v, t1, rfl, rfl⟩) fun u s1 ⟨v', H1, I1, rv, ev1, eh1⟩ => ?_) hs
    subst ev1
    subst eh1
    refine thn ((pe_var (pos := p0) N0.n N0.vis N0.dbg N0.cdt).run pins s1 σ H1 (fun v H2 => v = .ref a ∧ H2 = H1) I1 ⟨.ref a, t0, rfl, rfl⟩) fun u2 s2 ⟨v2, H2, I2, rx, ev, eh⟩ => ?_
    subst ev
    subst eh
    obtain rfl : u2 = Value.ref a := rx
    obtain ⟨mA, O, _⟩ := ins_get I2.hok hl0
    obtain ⟨od, J, _⟩ := O.look
    obtain ⟨m, hF⟩ := I2.fr
    refine PySem.W.set_prop hF I2.ok.mod.kin J hcl.sa hcl.po h1 h2 h3 ?_
    have I3 := I2.tok (s2.toks + 1)
    have run := (fnr_of F1 hb) X.A.in1.in1 X.stack { s2 with toks := s2.toks + 1 } H2 [.ref a, u] [.ref a, v'] (fun w H' => w = .non ∧ E.nx σ H') E0 ((c2.mono hj).in1.in1) (I3.env0.in1.in1) (.cons rfl (.cons rv .nil)) ⟨a, dx, ws0, [v'], M, d0, [d1], ys, rfl, by rw [hl]; rfl, haM, hl0, tr, rf, .cons rv1 .nil, hR, fun ws' H' e hl' r => ⟨rfl, kk ws' H' e hl' r⟩⟩
    refine codeAny_mono run fun r s' w => ?_
    cases r with
    | error er =>
      obtain ⟨_, _, _, _, _, _, _, _, _, _, _, _, z⟩ := w
      exact z.elim
    | ok fl =>
      cases fl with
      | ret u3 =>
        obtain ⟨v3, H3, I4, rv3, ev, nx⟩ := I3.after w
        exact ⟨σ, H3, I4, nx⟩
      | next => exact w.elim
      | brk => exact w.elim
      | cont => exact w.elim
  exact psbI (pss_cons key pss_nil) fun E σ H w => w
/-- a def that hands its list to such a property -/
theorem ob_chgN {f2 x2 : Str} {p0 p1 p3 : Pos} (F : Fd W.K x qual st dvs fa fd) (hK : W.K = S.K) (sc : FnScope N ps (defScope st)) (hbd : defBody st = [.Assign [.Attribute (.Name y p0) f2 p1] (.Name x2 p3) pos]) (SP : SetPN W S c f2 j f R) (hj : j + 2 ≤ k) (h2 : ps.length = 2)
    (body : ∀ (X : Cx) (U : WX), InB X W S k N (defScope st) U → Nm X 0 y ∧ Nm X 1 x2 ∧ (∃ x fns, ObC W S c x fns) ∧ swapsWith (.Name x2 p3) (some (.Attribute (.Name y p0) f2 p1)) pos.line X.env = pure false) (hN : 2 ≤ N.length) :
    FnOk W.P W.w W.K W.mg W.base (L2N.CX W.P W.w) (k + 1) fa fd ps (spMutN S c ps.length f R) := by
  obtain ⟨oc, od, dV, kV, doc, pm, an, cdv, ct, osl, rfl, lk, hcd, _, _⟩ := F.ex
  refine fn_of lk hcd sc (fun vs H Q E ⟨_, _, _, _, _, _, _, _, e, hl, _⟩ => by rw [e, List.length_cons, hl]) (fun A outer s H vs Q E hr h => ?_)
  obtain ⟨a, dx, ws0, ws, M, d0, ds, ys, rfl, hl, haM, ha, tr, rf0, rr, hR, ho⟩ := h
  rw [h2] at hl
  have key : ∀ (X : Cx) (U : WX), InB X W S k N (defScope st) U → PSs X (defBody st) fun E t H => ∃ a dx M ws0 d0 d1 ys v, t[0]? = some (some (.ref a)) ∧ t[1]? = some (some v) ∧ a ∉ M ∧ H a = some (.ins (S.cO c) dx ws0) ∧ (∀ b ∈ M, H b ≠ none) ∧ RepF S (hid (a :: M) H) ws0 [(f, d0)] ∧ Rep S (hid (a :: M) H) v d1 ∧ R [d1] ys ∧
      ∀ ws' H', Same (hid [a] H) H' → H' a = some (.ins (S.cO c) dx ws') → RepF S (lstH H (hid (a :: M) H')) ws' [(f, .lst ys)] → E.nx t H' := fun X U b => by
    obtain ⟨N0, N1, ⟨x', fns, OC⟩, hsw⟩ := body X U b
    rw [hbd]
    exact set_prop_new b.C OC SP N0 N1 hj hsw
  refine ⟨_, key _ (fun cls d _ H => E cls d H) ⟨⟨⟨rfl, hK, passes_of rfl, sc.nd⟩, rfl, rfl, fun _ => rfl⟩, ⟨⟨rfl, hK, passes_of rfl, sc.nd⟩, rfl, hr⟩, L2N.takes_of rfl rfl rfl rfl, rfl, rfl⟩, ?_⟩
  cases rr with
  | nil => simp at hl
  | cons r1 t =>
    cases t with
    | cons _ _ => simp at hl
    | nil =>
      rename_i v d1
      obtain ⟨n0, n1, N', rfl⟩ : ∃ n0 n1 N', N = n0 :: n1 :: N' := by
        match N, hN with
        | n0 :: n1 :: N', _ => exact ⟨n0, n1, N', rfl⟩
      exact ⟨a, dx, M, ws0, d0, d1, ys, v, rfl, rfl, haM, ha, tr, rf0, r1, hR, fun ws' H' e hl' r => ho ws' H' e hl' r⟩
end
end Fw

set_option exponentiation.threshold 9000
namespace Ev
open PySem L2 Fw
/-- the built-in names -/
structure Mb (W : Wd) : Prop where
  abs : W.mg "abs" = none
  int : W.mg "int" = none
  len : W.mg "len" = none
  range : W.mg "range" = none
  isinstance : W.mg "isinstance" = none
  bool : W.mg "bool" = none
  str : W.mg "str" = none
  tuple : W.mg "tuple" = none
  list : W.mg "list" = none
  max : W.mg "max" = none
  min : W.mg "min" = none
  enumerate : W.mg "enumerate" = none
  sorted : W.mg "sorted" = none
  set : W.mg "set" = none
  sum : W.mg "sum" = none
  all : W.mg "all" = none
  any : W.mg "any" = none
  zip : W.mg "zip" = none
  iter : W.mg "iter" = none
  next : W.mg "next" = none
  divmod : W.mg "divmod" = none
  valueerror : W.mg "ValueError" = none
local macro_rules | `(tactic| walk_at "kb") => `(tactic| first
  | assumption
  | exact Fw.Cc.toKb (by assumption)
  | exact Fw.Hc.toKb (by assumption))
local macro_rules | `(tactic| walk_at "mu") => `(tactic| first
  | assumption
  | exact Fw.cmul (by decide +kernel))
local macro_rules | `(tactic| walk_at "dv") => `(tactic| first
  | assumption
  | exact Fw.cdiv (by first | assumption | decide | omega) (by decide +kernel))
local macro_rules | `(tactic| walk_at "hu") => `(tactic| first
  | exact Fw.Cc.hu (by assumption)
  | exact Fw.Hc.hu (by assumption))
local macro_rules | `(tactic| walk_at "bn") => `(tactic| first
  | with_reducible exact Fw.b_add
  | with_reducible exact Fw.b_sub
  | with_reducible exact Fw.b_subB
  | ((with_reducible refine' Fw.b_mul ?hx); (case hx => walk_at "mu"))
  | ((with_reducible refine' Fw.b_fdiv ?hx); (case hx => walk_at "dv"))
  | ((with_reducible refine' Fw.b_mod ?hx); (case hx => first | assumption | decide | omega))
  | ((with_reducible refine' Fw.b_pow ?hx); (case hx => exact ⟨by decide, by decide, by decide⟩)))
local macro_rules | `(tactic| walk_at "cm") => `(tactic| first
  | with_reducible exact Fw.c_lt
  | with_reducible exact Fw.c_le
  | with_reducible exact Fw.c_gt
  | with_reducible exact Fw.c_ge
  | with_reducible exact Fw.c_eq
  | with_reducible exact Fw.c_ne
  | with_reducible exact Fw.c_isN
  | with_reducible exact Fw.c_isnotN
  | with_reducible exact Fw.c_isB
  | with_reducible exact Fw.c_isnotB
  | with_reducible exact Fw.c_eqB
  | with_reducible exact Fw.c_neB
  | with_reducible exact Fw.c_eqS
  | with_reducible exact Fw.c_neS
  | ((with_reducible refine' Fw.c_eqD ?kx ?ux ?f1 ?f2 ?s1 ?s2); (case kx => walk_at "kb"); (case ux => walk_at "hu"); (case f1 => rfl); (case f2 => rfl); (case s1 => rfl); (case s2 => rfl))
  | ((with_reducible refine' Fw.c_neD ?kx ?ux ?f1 ?f2 ?s1 ?s2); (case kx => walk_at "kb"); (case ux => walk_at "hu"); (case f1 => rfl); (case f2 => rfl); (case s1 => rfl); (case s2 => rfl)))
local macro_rules | `(tactic| walk_at "cm") => `(tactic| first
  | (refine' Fw.c_ptEq (by assumption) (by with_reducible assumption) ?rx ?jx; (case jx => decide); (case rx => walk_at "cl"))
  | (refine' Fw.c_ptEqT (by assumption) (by with_reducible assumption) ?rx ?jx; (case jx => decide); (case rx => walk_at "cl")))
local macro_rules | `(tactic| walk_at "cm") => `(tactic| first
  | ((refine' Fw.c_inO (by assumption) (by assumption) ?rx ?jx); (case jx => decide); (case rx => walk_at "cl"))
  | ((refine' Fw.c_notinO (by assumption) (by assumption) ?rx ?jx); (case jx => decide); (case rx => walk_at "cl")))
local macro_rules | `(tactic| walk_at "at") => `(tactic| first
  | assumption
  | rfl
  | exact Fw.atI_int (by first | assumption | decide | omega) (by first | assumption | omega))
local macro_rules | `(tactic| walk_at "ix") => `(tactic| first
  | ((with_reducible refine' Fw.x_lst ?kx ?hx); (case kx => walk_at "kb"); (case hx => walk_at "at"))
  | ((with_reducible refine' Fw.x_tup ?kx ?hx); (case kx => walk_at "kb"); (case hx => walk_at "at")))
local macro_rules | `(tactic| walk_at "ag") => `(tactic| first
  | with_reducible exact Fw.a_nil
  | ((with_reducible refine' Fw.a_cons ?hx ?tx ?sx); (case sx => rfl); (case hx => walk_at "ex"); (case tx => walk_at "ag")))
local macro_rules | `(tactic| walk_at "ex") => `(tactic| first
  | with_reducible exact Fw.e_int
  | with_reducible exact Fw.e_bl
  | with_reducible exact Fw.e_non
  | with_reducible exact Fw.e_str
  | ((with_reducible refine' Fw.e_var (by with_reducible assumption) ?vx); (case vx => rfl))
  | ((with_reducible refine' Fw.e_bin ?ax ?bx ?ox); (case ax => walk_at "ex"); (case bx => walk_at "ex"); (case ox => walk_at "bn"))
  | ((with_reducible refine' Fw.e_not ?ax); (case ax => walk_at "ex"))
  | ((with_reducible refine' Fw.e_un ?ax ?ox); (case ax => walk_at "ex"); (case ox => walk_at "un"))
  | ((with_reducible refine' Fw.e_cmp ?ax ?bx ?ox ?mx); (case mx => first | exact nomark _ | with_unfolding_all rfl); (case ax => walk_at "ex"); (case bx => walk_at "ex"); (case ox => walk_at "cm"))
  | ((with_reducible refine' Fw.e_chain ?ax ?bx ?cx ?ox ?px ?mx); (case mx => with_unfolding_all rfl); (case ax => walk_at "ex"); (case bx => walk_at "ex"); (case cx => walk_at "ex"); (case ox => walk_at "cm"); (case px => walk_at "cm"))
  | ((with_reducible refine' Fw.e_ixOwn ?kx (by with_reducible assumption) ?hx ?ax ?rx ?sx); (case sx => exact fun _ _ => rfl); (case kx => walk_at "kb"); (case hx => rfl); (case ax => walk_at "ex"); (case rx => walk_at "at"))
  | ((with_reducible refine' Fw.e_lenOwn ?kx (by with_reducible assumption) ?hx (by with_reducible assumption) (by with_reducible assumption)); (case kx => walk_at "kb"); (case hx => rfl))
  | ((with_reducible refine' Fw.e_ix ?ax ?bx ?ox ?sx); (case sx => exact fun _ _ => rfl); (case ax => walk_at "ex"); (case bx => walk_at "ex"); (case ox => walk_at "ix"))
  | ((with_reducible refine' Fw.e_isiB (T := "int") (y := "int") ?bx ?ax ?ox (by with_reducible assumption) ?mx (by with_reducible assumption) ?yx PyProof.Rows.Boot.«int» ?kx ?nx ?hx); (case bx => walk_at "kb"); (case ax => walk_at "ex"); (case ox => exact True.intro); (case mx => exact Mb.isinstance (by assumption)); (case yx => exact Mb.int (by assumption)); (case kx => exact Fw.kit_int rfl); (case nx => decide); (case hx => rfl))
  | ((with_reducible refine' Fw.e_isiB (T := "str") (y := "str") ?bx ?ax ?ox (by with_reducible assumption) ?mx (by with_reducible assumption) ?yx PyProof.Rows.Boot.«str» ?kx ?nx ?hx); (case bx => walk_at "kb"); (case ax => walk_at "ex"); (case ox => exact True.intro); (case mx => exact Mb.isinstance (by assumption)); (case yx => exact Mb.str (by assumption)); (case kx => exact Fw.kit_str rfl); (case nx => decide); (case hx => rfl))
  | ((with_reducible refine' Fw.e_isiB (T := "bool") (y := "bool") ?bx ?ax ?ox (by with_reducible assumption) ?mx (by with_reducible assumption) ?yx PyProof.Rows.Boot.«bool» ?kx ?nx ?hx); (case bx => walk_at "kb"); (case ax => walk_at "ex"); (case ox => exact True.intro); (case mx => exact Mb.isinstance (by assumption)); (case yx => exact Mb.bool (by assumption)); (case kx => exact Fw.kit_bool rfl); (case nx => decide); (case hx => rfl))
  | ((with_reducible refine' Fw.e_isiB (T := "tuple") (y := "tuple") ?bx ?ax ?ox (by with_reducible assumption) ?mx (by with_reducible assumption) ?yx PyProof.Rows.Boot.«tuple» ?kx ?nx ?hx); (case bx => walk_at "kb"); (case ax => walk_at "ex"); (case ox => exact True.intro); (case mx => exact Mb.isinstance (by assumption)); (case yx => exact Mb.tuple (by assumption)); (case kx => exact Fw.kit_tuple rfl); (case nx => decide); (case hx => rfl))
  | ((with_reducible refine' Fw.e_isiB (T := "list") (y := "list") ?bx ?ax ?ox (by with_reducible assumption) ?mx (by with_reducible assumption) ?yx PyProof.Rows.Boot.«list» ?kx ?nx ?hx); (case bx => walk_at "kb"); (case ax => walk_at "ex"); (case ox => exact True.intro); (case mx => exact Mb.isinstance (by assumption)); (case yx => exact Mb.list (by assumption)); (case kx => exact Fw.kit_list rfl); (case nx => decide); (case hx => rfl))
  | ((with_reducible refine' Fw.e_isi (y := "Point") ?bx ?ax ?ox (by with_reducible assumption) ?mx (by with_reducible assumption) ?yx ?kx ?hx); (case bx => walk_at "kb"); (case ax => walk_at "ex"); (case ox => exact ⟨Fw.PtC.scls (by assumption), Fw.PtC.isi (by assumption)⟩); (case mx => exact Mb.isinstance (by assumption)); (case yx => exact Fw.PtC.gC (by assumption)); (case kx => exact Fw.kitC_self); (case hx => rfl))
  | ((with_reducible refine' Fw.e_callB (x := "abs") (id := "abs") Fw.k_abs (by with_reducible assumption) (by with_reducible assumption) PyProof.Rows.Boot.«abs» ?ax ?nx ?ex ?px); (case nx => decide); (case ex => rfl); (case px => rfl); (case ax => walk_at "ag"))
  | ((with_reducible refine' Fw.e_callT (x := "int") (T := "int") Fw.k_int (by with_reducible assumption) (by with_reducible assumption) PyProof.Rows.Boot.«int» ?ax ?nx ?ex ?px); (case nx => decide); (case ex => rfl); (case px => rfl); (case ax => walk_at "ag"))
  | ((with_reducible refine' Fw.e_callT (x := "int") (T := "int") Fw.k_intB (by with_reducible assumption) (by with_reducible assumption) PyProof.Rows.Boot.«int» ?ax ?nx ?ex ?px); (case nx => decide); (case ex => rfl); (case px => rfl); (case ax => walk_at "ag"))
  | ((with_reducible refine' Fw.e_callB (x := "len") (id := "len") (Fw.k_lenL (by walk_at "kb")) (by with_reducible assumption) (by with_reducible assumption) PyProof.Rows.Boot.«len» ?ax ?nx ?ex ?px); (case nx => decide); (case ex => rfl); (case px => rfl); (case ax => walk_at "ag"))
  | ((with_reducible refine' Fw.e_callB (x := "len") (id := "len") (Fw.k_lenT (by walk_at "kb")) (by with_reducible assumption) (by with_reducible assumption) PyProof.Rows.Boot.«len» ?ax ?nx ?ex ?px); (case nx => decide); (case ex => rfl); (case px => rfl); (case ax => walk_at "ag"))
  | ((with_reducible refine' Fw.e_callB (x := "max") (id := "max") (Fw.k_max2 (by assumption)) (by with_reducible assumption) (by with_reducible assumption) PyProof.Rows.Boot.«max» ?ax ?nx ?ex ?px); (case nx => decide); (case ex => rfl); (case px => rfl); (case ax => walk_at "ag"))
  | ((with_reducible refine' Fw.e_callB (x := "divmod") (id := "divmod") (Fw.k_divmod ?qx) (by with_reducible assumption) (by with_reducible assumption) PyProof.Rows.Boot.«divmod» ?ax ?nx ?ex ?px); (case nx => decide); (case ex => rfl); (case px => rfl); (case ax => walk_at "ag"); (case qx => walk_at "dv"))
  | ((with_reducible refine' Fw.e_callB (x := "min") (id := "min") (Fw.k_min2 (by assumption)) (by with_reducible assumption) (by with_reducible assumption) PyProof.Rows.Boot.«min» ?ax ?nx ?ex ?px); (case nx => decide); (case ex => rfl); (case px => rfl); (case ax => walk_at "ag"))
  | ((with_reducible refine' Fw.e_tup ?ax ?lx); (case ax => walk_at "ag"); (case lx => exact Nat.le_of_ble_eq_true rfl))
  | ((with_reducible refine' Fw.n_e ?ax); (case ax => walk_at "xn"))
  | ((with_reducible refine' Fw.e_call (by with_reducible assumption) (by with_reducible assumption) (by with_reducible assumption) ?ax ?rx ?nx ?jx ?ex ?px); (case ex => rfl); (case px => rfl); (case jx => decide); (case ax => walk_at "ag"); (case nx => rfl); (case rx => walk_at "cl"))
  | ((with_reducible refine' Fw.e_pt (by assumption) (show Fw.PtI _ _ _ 3 _ _ by assumption) (by with_reducible assumption) ?ax ?dx ?rx ?ox ?jx ?ex ?px); (case ex => rfl); (case px => rfl); (case jx => decide); (case ax => walk_at "ag"); (case dx => rfl); (case rx => walk_at "pt"); (case ox => rfl))
  | ((with_reducible refine' Fw.e_pt (by assumption) (show Fw.PtI _ _ _ 2 _ _ by assumption) (by with_reducible assumption) ?ax ?dx ?rx ?ox ?jx ?ex ?px); (case ex => rfl); (case px => rfl); (case jx => decide); (case ax => walk_at "ag"); (case dx => rfl); (case rx => walk_at "pt"); (case ox => rfl))
  | ((with_reducible refine' Fw.e_prop (by assumption) (by assumption) (by with_reducible assumption) ?ax ?rx ?jx ?hx); (case jx => decide); (case hx => rfl); (case ax => walk_at "ex"); (case rx => walk_at "cl"))
  | ((with_reducible refine' Fw.e_px ?kx ?tx ?ax ?bx); (case kx => walk_at "kb"); (case tx => assumption); (case bx => rfl); (case ax => walk_at "ex"))
  | ((with_reducible refine' Fw.e_py ?kx ?tx ?ax ?bx); (case kx => walk_at "kb"); (case tx => assumption); (case bx => rfl); (case ax => walk_at "ex"))
  | ((with_reducible refine' Fw.e_po ?kx ?tx ?ax ?bx); (case kx => walk_at "kb"); (case tx => assumption); (case bx => rfl); (case ax => walk_at "ex"))
  | ((with_reducible refine' Fw.e_fldS ?kx ?oc (by with_reducible assumption) ?ix ?mx ?lx ?bx); (case kx => walk_at "kb"); (case ix => rfl); (case oc => assumption); (case bx => rfl); (case mx => (simp; done)); (case lx => rfl))
  | ((with_reducible refine' Fw.e_fld ?kx ?oc ?ax ?mx ?lx ?bx); (case kx => walk_at "kb"); (case bx => rfl); (case ax => walk_at "ex"); (case oc => assumption); (case mx => (simp; done)); (case lx => rfl))
  | ((with_reducible refine' Fw.e_oprop (by assumption) ?oc (by assumption) ?ax ?rx ?jx ?hx); (case jx => decide); (case hx => rfl); (case ax => walk_at "ex"); (case oc => assumption); (case rx => walk_at "cl"))
  | ((with_reducible refine' Fw.e_meth (by assumption) ?oc (by assumption) ?ax ?lx ?gx ?rx ?nx ?jx ?sx ?px ?tx); (case sx => rfl); (case px => rfl); (case tx => rfl); (case jx => decide); (case ax => walk_at "ex"); (case oc => assumption); (case lx => rfl); (case gx => walk_at "ag"); (case nx => rfl); (case rx => walk_at "cl"))
  | ((with_reducible refine' Fw.e_ob (by assumption) (by assumption) (by with_reducible assumption) ?ax ?rx ?nx ?jx ?sx ?px); (case sx => rfl); (case px => rfl); (case jx => decide); (case ax => walk_at "ag"); (case nx => rfl); (case rx => walk_at "cl"))
  | ((with_reducible refine' Fw.e_callO (by assumption) (by assumption) ?fx ?ax ?rx ?nx ?jx ?tx ?sx ?px); (case sx => rfl); (case px => rfl); (case tx => rfl); (case jx => decide); (case fx => walk_at "ex"); (case ax => walk_at "ag"); (case nx => rfl); (case rx => walk_at "cl"))
  | ((with_reducible refine' Fw.e_and ?ax (fun hb => ?bx)); (case ax => walk_at "ex"); (case bx => (try simp only [decide_eq_true_eq, decide_eq_false_iff_not, Bool.not_eq_true', Bool.not_eq_false'] at hb); walk_at "ex"))
  | ((with_reducible refine' Fw.e_or ?ax (fun hb => ?bx)); (case ax => walk_at "ex"); (case bx => (try simp only [decide_eq_true_eq, decide_eq_false_iff_not, Bool.not_eq_true', Bool.not_eq_false'] at hb); walk_at "ex"))
  | ((with_reducible refine' Fw.e_one ?ax); (case ax => walk_at "ex")))
local macro_rules | `(tactic| walk_at "po") => `(tactic| first
  | with_reducible exact Fw.o_none
  | ((with_reducible refine' Fw.o_some ?ax); (case ax => walk_at "ex")))
local macro_rules | `(tactic| walk_at "xn") => `(tactic| first
  | ((with_reducible refine' Fw.n_lst ?ax ?lx); (case ax => walk_at "ag"); (case lx => exact Nat.le_of_ble_eq_true rfl))
  | ((with_reducible refine' Fw.n_rev (p4 := ⟨0, 0, 0, 0⟩) ?kx ?ax); (case kx => walk_at "kb"); (case ax => walk_at "ex"))
  | ((with_reducible refine' Fw.n_cut ?kx ?ax ?lx ?ux); (case kx => walk_at "kb"); (case ax => walk_at "ex"); (case lx => walk_at "po"); (case ux => walk_at "po"))
  | ((with_reducible refine' Fw.n_copy ?kx ?ax (by with_reducible assumption) ?mx ?sx); (case kx => walk_at "kb"); (case mx => assumption); (case sx => rfl); (case ax => walk_at "ex"))
  | ((with_reducible refine' Fw.n_catA ?kx ?ax ?bx ?zx); (case kx => walk_at "kb"); (case ax => walk_at "ex"); (case bx => walk_at "ex"); (case zx => first | assumption | (simp; omega))))
local macro_rules | `(tactic| walk_at "un") => `(tactic| with_reducible exact Fw.u_neg)
local macro_rules | `(tactic| walk_at "ws") => `(tactic| first
  | ((with_reducible refine' Fw.w_and1 ?ax); (case ax => walk_at "tx"))
  | ((with_reducible refine' Fw.w_or1 ?ax); (case ax => walk_at "tx"))
  | ((with_reducible refine' Fw.w_and ?ax (fun hb => ?bx)); (case ax => walk_at "tx"); (case bx => (try simp only [decide_eq_true_eq, decide_eq_false_iff_not, Bool.not_eq_true', Bool.not_eq_false'] at hb); walk_at "ws"))
  | ((with_reducible refine' Fw.w_or ?ax (fun hb => ?bx)); (case ax => walk_at "tx"); (case bx => (try simp only [decide_eq_true_eq, decide_eq_false_iff_not, Bool.not_eq_true', Bool.not_eq_false'] at hb); walk_at "ws")))
local macro_rules | `(tactic| walk_at "tx") => `(tactic| first
  | ((with_reducible refine' Fw.t_cmp ?ax ?bx ?ox ?mx); (case mx => first | exact nomark _ | with_unfolding_all rfl); (case ax => walk_at "ex"); (case bx => walk_at "ex"); (case ox => walk_at "cm"))
  | ((with_reducible refine' Fw.t_chain ?ax ?bx ?cx ?ox ?px ?mx); (case mx => with_unfolding_all rfl); (case ax => walk_at "ex"); (case bx => walk_at "ex"); (case cx => walk_at "ex"); (case ox => walk_at "cm"); (case px => walk_at "cm"))
  | ((with_reducible refine' Fw.t_chainN ?ax ?cx ?mx); (case mx => with_unfolding_all rfl); (case ax => walk_at "ex"); (case cx => walk_at "ct"))
  | ((with_reducible refine' Fw.t_not ?ax); (case ax => walk_at "tx"))
  | ((with_reducible refine' Fw.t_w ?ax); (case ax => walk_at "ws"))
  | ((with_reducible refine' Fw.t_val ?ax ?hx); (case hx => exact fun _ => rfl); (case ax => walk_at "ex"))
  | ((with_reducible refine' Fw.t_tru ?kx ?ax ?dx ?hx); (case kx => walk_at "kb"); (case hx => exact fun _ => rfl); (case ax => walk_at "ex"); (case dx => rfl)))
local macro_rules | `(tactic| walk_at "ct") => `(tactic| first
  | ((with_reducible refine' Fw.ct_link ?ax ?ox ?cx); (case ax => walk_at "ex"); (case ox => walk_at "cm"); (case cx => walk_at "ct"))
  | ((with_reducible refine' Fw.ct_last ?ax ?ox); (case ax => walk_at "ex"); (case ox => walk_at "cm")))
local macro_rules | `(tactic| walk_at "asg") => `(tactic| (refine' Fw.s_cons (Fw.s_asg (by walk_at "kb") (by with_reducible assumption) ?xx ?kx); (case xx => walk_at "ex"); (try dsimp only [List.set_cons_succ, List.set_cons_zero])))
local macro_rules | `(tactic| walk_at "ret") => `(tactic| (refine' Fw.s_cons (Fw.s_ret ?xx ?kx); (case xx => walk_at "ex")))
local macro_rules | `(tactic| walk_at "rs") => `(tactic| (refine' Fw.s_cons (Fw.s_raise (by assumption) (Fw.InB.tk (by assumption)) (by with_reducible assumption) (by with_reducible assumption) ?ax ?hx ?nx ?kx ?lx); (case ax => walk_at "ag"); (case nx => rfl); (case kx => decide); (case lx => exact Nat.le_of_ble_eq_true rfl); (case hx => first | exact ⟨rfl, rfl⟩ | assumption)))
local macro_rules | `(tactic| walk_at "bz") => `(tactic| first
  | rfl
  | assumption
  | exact decide_eq_true (by first | assumption | omega)
  | exact decide_eq_false (by first | assumption | omega)
  | (simp; done))
local macro_rules | `(tactic| walk_at "tz") => `(tactic| (refine' Fw.XT.is ?tx ?zx; (case tx => walk_at "tx"); (case zx => walk_at "bz")))
local macro_rules | `(tactic| walk_at "ifT") => `(tactic| (refine' Fw.s_cons (Fw.s_if (b := true) ?tx (fun _ => ?kx) (fun z => nomatch z)); (case tx => walk_at "tz")))
local macro_rules | `(tactic| walk_at "ifF") => `(tactic| (refine' Fw.s_cons (Fw.s_if (b := false) ?tx (fun z => nomatch z) (fun _ => Fw.s_nil ?kx)); (case tx => walk_at "tz")))
local macro_rules | `(tactic| walk_at "ifE") => `(tactic| (refine' Fw.s_cons (Fw.s_if (b := false) ?tx (fun z => nomatch z) (fun _ => ?kx)); (case tx => walk_at "tz")))
local macro_rules | `(tactic| walk_at "sm") => `(tactic| first
  | rfl
  | assumption
  | (simp; done))

abbrev s_common_divisor : Stmt := topS 10
theorem s_common_divisor_sc : FnScope ["one", "two"] ["one", "two"] (defScope s_common_divisor) := ⟨rfl, rfl, rfl, by decide +kernel, rfl, by decide +kernel, by decide +kernel⟩
theorem fmod_lt (p q : Int) (h : q ≠ 0) : (p.fmod q).natAbs < q.natAbs := by
  have e := @Int.fmod_eq_emod p q
  have a1 := Int.emod_nonneg p h
  have a2 := Int.emod_lt p h
  by_cases hq : 0 ≤ q ∨ q ∣ p
  · rw [if_pos hq] at e
    rw [e]
    omega
  · rw [if_neg hq] at e
    have hz : p % q ≠ 0 := fun z => hq (.inr (Int.dvd_of_emod_eq_zero z))
    have hn : q < 0 := by
      rcases Int.lt_or_le q 0 with z | z
      · exact z
      · exact absurd (.inl z) hq
    rw [e]
    omega
theorem gcd_fmod (p q : Int) : Int.gcd q (p.fmod q) = Int.gcd p q := by
  rw [Int.fmod_def, Int.gcd_comm p q]
  have := Int.gcd_sub_mul_left_right q p (p.fdiv q)
  rw [this]
def RGcd (ds : List D) (o : Out) : Prop := ∃ a b : Int, ds = [.int a, .int b] ∧ o = .ok (.int (Int.gcd a b : Int))
theorem gcd_r {a b : Int} : RGcd ([.int a, .int b] ++ []) (.ok (.int (Int.gcd a b : Int))) := ⟨a, b, rfl, rfl⟩
local macro_rules | `(tactic| walk_at "cl") => `(tactic| exact gcd_r)
section
variable {W : Wd} {S : Sg}
theorem ok_gcd {f : Addr} {fd : FuncData} (F : Fd W.K "common_divisor" "common_divisor" s_common_divisor [] f fd) (hK : W.K = S.K) (T : Mb W) : FnOk W.P W.w W.K W.mg W.base (L2N.CX W.P W.w) 1 f fd ["one", "two"] (spOf S 2 RGcd) := by
  refine def_ok F hK s_common_divisor_sc (fun ds o h => by obtain ⟨a, b, rfl, _⟩ := h; rfl) fun X U ds o b h => ?_
  obtain ⟨p, q, rfl, rfl⟩ := h
  have C := b.C
  obtain ⟨n_one, l_one⟩ := b.nm 0 "one" rfl (.inl rfl) (by decide) (by decide)
  obtain ⟨n_two, l_two⟩ := b.nm 1 "two" rfl (.inl rfl) (by decide) (by decide)
  have g_abs := b.ng "abs" rfl (by decide)
  have m_abs := b.mg T.abs
  refine s_mid (fun g => ∃ u v : Int, g = [.v (.int u), .v (.int v)] ∧ Int.gcd u v = Int.gcd p q ∧ v = 0) ?_ ?_
  · refine s_while C.toKb (fun m g => ∃ u v : Int, g = [.v (.int u), .v (.int v)] ∧ Int.gcd u v = Int.gcd p q ∧ m = v.natAbs) q.natAbs ⟨p, q, rfl, rfl, rfl⟩ ?_
    rintro m g ⟨u, v, rfl, h1, rfl⟩
    refine' ⟨_, ?tx, ?y, ?n⟩
    case tx => walk_at "tx"
    case n => exact fun hb => ⟨u, v, rfl, h1, by simpa using hb⟩
    case y =>
      intro hb
      have hv : v ≠ 0 := by simpa using hb
      refine' s_cons (s_par b l_one l_two ?x1 ?x2 ?k)
      case x1 => walk_at "ex"
      case x2 =>
        refine' Fw.e_bin ?ax ?bx (Fw.b_modN hv)
        case ax => walk_at "ex"
        case bx => walk_at "ex"
      case k => exact s_nil ⟨_, fmod_lt u v hv, _, _, rfl, by rw [gcd_fmod, h1], rfl⟩
  · rintro g ⟨u, v, rfl, h1, rfl⟩
    walk_at "ret"
    show D.int _ = D.int _
    have e : (Int.gcd p q : Int) = (u.natAbs : Int) := by rw [← h1]; simp
    rw [e]
    congr 1
    omega
end

abbrev s_reduced : Stmt := topS 12
theorem s_reduced_sc : FnScope ["n", "d", "shared"] ["n", "d"] (defScope s_reduced) := ⟨rfl, rfl, rfl, by decide +kernel, rfl, by decide +kernel, by decide +kernel⟩
/-- a fraction in lowest terms -/
def lowT (n d : Int) : D := .tup [.int (n / (Int.gcd n d : Int)), .int (d / (Int.gcd n d : Int))]
def RRed (ds : List D) (o : Out) : Prop := ∃ n d : Int, ds = [.int n, .int d] ∧ ((0 < d ∧ Bd d 8000 ∧ o = .ok (lowT n d)) ∨ (d < 1 ∧ o = .err 1 [("over", .int d)]))
theorem red_r {n d : Int} {m : Nat} [y : Bd d m] (h : 0 < d) (hm : m ≤ 8000) : RRed ([.int n, .int d] ++ []) (.ok (lowT n d)) := ⟨n, d, rfl, .inl ⟨h, ⟨y.up hm⟩, rfl⟩⟩
theorem gcd_pos {n d : Int} (h : 0 < d) : 0 < (Int.gcd n d : Int) := by
  have : 0 < Int.gcd n d := Int.gcd_pos_of_ne_zero_right n (by omega)
  omega
theorem gcd_small {n d : Int} {m : Nat} (h : 0 < d) (y : Bd d m) : Bd (Int.gcd n d : Int) m := ⟨by
  have h1 := Int.le_of_dvd h (Int.gcd_dvd_right n d)
  have h2 := gcd_pos (n := n) h
  have := y.h
  omega⟩
local macro_rules | `(tactic| walk_at "cl") => `(tactic| exact red_r (by first | assumption | decide | omega) (by decide +kernel))
section
variable {W : Wd} {S : Sg}
theorem ok_red {f : Addr} {fd : FuncData} (F : Fd W.K "reduced" "reduced" s_reduced [] f fd) (hK : W.K = S.K) (T : Mb W) (f_gcd : Fn W S 1 "common_divisor" 2 [] RGcd) (E_over : ErrC W S 1 "BadOver" ["over"]) :
    FnOk W.P W.w W.K W.mg W.base (L2N.CX W.P W.w) 3 f fd ["n", "d"] (spOf S 2 RRed) := by
  refine def_ok F hK s_reduced_sc (fun ds o h => by obtain ⟨a, b, rfl, _⟩ := h; rfl) fun X U ds o b h => ?_
  obtain ⟨n, d, rfl, h⟩ := h
  have C := b.C
  obtain ⟨n_n, l_n⟩ := b.nm 0 "n" rfl (.inl rfl) (by decide) (by decide)
  obtain ⟨n_d, l_d⟩ := b.nm 1 "d" rfl (.inl rfl) (by decide) (by decide)
  obtain ⟨n_shared, l_shared⟩ := b.nm 2 "shared" rfl (.inl rfl) (by decide) (by decide)
  have g_BadOver := b.ng "BadOver" rfl (by decide)
  have g_common_divisor := b.ng "common_divisor" rfl (by decide)
  change XB _ _ _ [.v (.int n), .v (.int d), .no] _ _
  rcases h with ⟨h0, h1, rfl⟩ | ⟨h0, rfl⟩
  · have hz := decide_eq_false (by omega : ¬ d < 1)
    walk_at "ifF"
    walk_at "asg"
    have hg := gcd_pos (n := n) h0
    haveI := gcd_small (n := n) h0 h1
    walk_at "ret"
    rfl
  · have hz := decide_eq_true (h0 : d < 1)
    walk_at "ifT"
    walk_at "rs"
end

abbrev s_Point_init : Stmt := inClass (topS 14) 1
theorem s_Point_init_sc : FnScope ["self", "x", "y", "over", "shared"] ["self", "x", "y", "over"] (defScope s_Point_init) := ⟨rfl, rfl, rfl, by decide +kernel, rfl, by decide +kernel, by decide +kernel⟩
def normP (x y v : Int) : D := .pt (x / (Int.gcd (Int.gcd x y : Int) v : Int)) (y / (Int.gcd (Int.gcd x y : Int) v : Int)) (v / (Int.gcd (Int.gcd x y : Int) v : Int))
def RPt (x y v : Int) (o : Out) : Prop := (0 < v ∧ Bd v 8000 ∧ o = .ok (normP x y v)) ∨ (v < 1 ∧ o = .err 1 [("over", .int v)])
theorem pt_r {x y v : Int} {m : Nat} [b : Bd v m] (h : 0 < v) (hm : m ≤ 8000) : RPt x y v (.ok (normP x y v)) := .inl ⟨h, ⟨b.up hm⟩, rfl⟩
local macro_rules | `(tactic| walk_at "pt") => `(tactic| exact pt_r (by first | assumption | decide | omega) (by decide +kernel))
section
variable {W : Wd} {S : Sg}
theorem ok_pinit {dvs : List V} {f : Addr} {fd : FuncData} (F : Fd W.K "__init__" "Point.__init__" s_Point_init dvs f fd) (hK : W.K = S.K) (T : Mb W) (TP : PtC W S) (f_gcd : Fn W S 1 "common_divisor" 2 [] RGcd) (E_over : ErrC W S 1 "BadOver" ["over"]) :
    FnOk W.P W.w W.K W.mg W.base (L2N.CX W.P W.w) 3 f fd ["self", "x", "y", "over"] (spPt S RPt) := by
  refine pt_init F hK s_Point_init_sc rfl fun X U a dx p q v o b h => ?_
  have C := b.C
  obtain ⟨n_self, l_self⟩ := b.nm 0 "self" rfl (.inl rfl) (by decide) (by decide)
  obtain ⟨n_x, l_x⟩ := b.nm 1 "x" rfl (.inl rfl) (by decide) (by decide)
  obtain ⟨n_y, l_y⟩ := b.nm 2 "y" rfl (.inl rfl) (by decide) (by decide)
  obtain ⟨n_over, l_over⟩ := b.nm 3 "over" rfl (.inl rfl) (by decide) (by decide)
  obtain ⟨n_shared, l_shared⟩ := b.nm 4 "shared" rfl (.inl rfl) (by decide) (by decide)
  have g_BadOver := b.ng "BadOver" rfl (by decide)
  have g_common_divisor := b.ng "common_divisor" rfl (by decide)
  change XB _ _ _ [.pi a dx [], .v (.int p), .v (.int q), .v (.int v), .no] _ _
  rcases h with ⟨h0, h1, rfl⟩ | ⟨h0, rfl⟩
  · have hz := decide_eq_false (by omega : ¬ v < 1)
    walk_at "ifF"
    walk_at "asg"
    have hg := gcd_pos (n := (Int.gcd p q : Int)) h0
    haveI := gcd_small (n := (Int.gcd p q : Int)) h0 h1
    refine' s_cons (s_slt C.toKb TP n_self rfl ?x1 TP.sx (quietB_ok rfl) ?k1)
    case x1 => walk_at "ex"
    refine' s_cons (s_slt C.toKb TP n_self rfl ?x2 TP.sy (quietB_ok rfl) ?k2)
    case x2 => walk_at "ex"
    refine' s_cons (s_slt C.toKb TP n_self rfl ?x3 TP.so (quietB_ok rfl) ?k3)
    case x3 => walk_at "ex"
    refine s_nil ⟨_, rfl, ?_, ?_, ?_⟩
    · rw [SlX.putS_ne TP.xo, SlX.putS_ne TP.xy, SlX.putS_get]
    · rw [SlX.putS_ne TP.yo, SlX.putS_get]
    · rw [SlX.putS_get]
  · have hz := decide_eq_true (h0 : v < 1)
    walk_at "ifT"
    walk_at "rs"
end

abbrev s_law_nth : Stmt := topS 28
theorem s_law_nth_sc : FnScope ["_law_script", "_law_k"] ["_law_script", "_law_k"] (defScope s_law_nth) := ⟨rfl, rfl, rfl, by decide +kernel, rfl, by decide +kernel, by decide +kernel⟩
def RNth (ds : List D) (o : Out) : Prop := ∃ (ns : List Int) (k : Int), 0 ≤ k ∧ ds = [.lst (ns.map D.int), .int k] ∧ o = .ok (.int (ns.getD k.toNat 0))
theorem nth_r {ns : List Int} {k : Int} (h : 0 ≤ k) : RNth ([.lst (ns.map D.int), .int k] ++ []) (.ok (.int (ns.getD k.toNat 0))) := ⟨ns, k, h, rfl, rfl⟩
local macro_rules | `(tactic| walk_at "cl") => `(tactic| exact nth_r (by first | assumption | decide | omega))
section
variable {W : Wd} {S : Sg}
theorem ok_nth {f : Addr} {fd : FuncData} (F : Fd W.K "_law_nth" "_law_nth" s_law_nth [] f fd) (hK : W.K = S.K) (T : Mb W) :
    FnOk W.P W.w W.K W.mg W.base (L2N.CX W.P W.w) 1 f fd ["_law_script", "_law_k"] (spOf S 2 RNth) := by
  refine def_ok F hK s_law_nth_sc (fun ds o h => by obtain ⟨a, b, _, rfl, _⟩ := h; rfl) fun X U ds o b h => ?_
  obtain ⟨ns, k, h0, rfl, rfl⟩ := h
  have C := b.C
  obtain ⟨n__law_script, l__law_script⟩ := b.nm 0 "_law_script" rfl (.inl rfl) (by decide) (by decide)
  obtain ⟨n__law_k, l__law_k⟩ := b.nm 1 "_law_k" rfl (.inl rfl) (by decide) (by decide)
  have g_len := b.ng "len" rfl (by decide)
  have m_len := b.mg T.len
  change XB _ _ _ [.v (.lst (ns.map D.int)), .v (.int k)] _ _
  have hl : (ns.map D.int).length = ns.length := List.length_map ..
  by_cases h : k < ns.length
  · have hz := decide_eq_true (by rw [hl]; exact h : k < ((ns.map D.int).length : Int))
    walk_at "ifT"
    walk_at "ret"
    rfl
  · have hz := decide_eq_false (by rw [hl]; exact h : ¬ k < ((ns.map D.int).length : Int))
    walk_at "ifF"
    walk_at "ret"
    show D.int _ = D.int _
    rw [List.getD_eq_getElem?_getD, List.getElem?_eq_none (by omega)]
    rfl
end

abbrev s_law_draws : Stmt := topS 29
theorem s_law_draws_sc : FnScope ["_law_cell", "_law_count", "_law_rest", "_law_great", "_law_pool", "_law_k", "_law_mixed"] ["_law_cell", "_law_count"] (defScope s_law_draws) := ⟨rfl, rfl, rfl, by decide +kernel, rfl, by decide +kernel, by decide +kernel⟩
def dVal (k rest : Int) : Int := ((rest + 29 * k + 7) * (rest + 13 * k + 5) % 1009 * 37 + 11 * k + rest) % 997
def drawsL (great : Bool) (r : Int) : Nat → List Int × Int
  | 0 => ([], r)
  | n + 1 => let p := drawsL great r n
    if great then (p.1 ++ [p.2 % 1000], p.2 / 1000) else (p.1 ++ [dVal (0 + (n : Int)) p.2], p.2)
def absI (c : Int) : Int := if c < 0 then -c else c
def drawsOf (cell : Int) (n : Nat) : List Int := (drawsL (decide ((10 : Int) ^ (18 : Int).toNat ≤ absI cell)) (absI cell) n).1
theorem drawsL_len {great : Bool} {r : Int} : ∀ n, (drawsL great r n).1.length = n
  | 0 => rfl
  | n + 1 => by
    have := drawsL_len (great := great) (r := r) n
    unfold drawsL
    cases great <;> simp [this]
theorem drawsL_in {great : Bool} {r : Int} : ∀ n, ∀ x ∈ (drawsL great r n).1, 0 ≤ x ∧ x < 1000
  | 0, x, h => by cases h
  | n + 1, x, h => by
    have ih := drawsL_in (great := great) (r := r) n
    unfold drawsL at h
    cases great with
    | true =>
      rcases List.mem_append.mp h with h | h
      · exact ih x h
      · rw [List.mem_singleton.mp h]
        omega
    | false =>
      rcases List.mem_append.mp h with h | h
      · exact ih x h
      · rw [List.mem_singleton.mp h]
        unfold dVal
        omega
theorem drawsL_false {r : Int} : ∀ n, (drawsL false r n).2 = r
  | 0 => rfl
  | n + 1 => drawsL_false n
theorem drawsOf_len {c : Int} {n : Nat} : (drawsOf c n).length = n := drawsL_len n
theorem drawsOf_in {c : Int} {n : Nat} : ∀ x ∈ drawsOf c n, 0 ≤ x ∧ x < 1000 := drawsL_in n
def RDraws (ds : List D) (o : Out) : Prop := ∃ cell count : Int, 0 ≤ count ∧ count ≤ 1000 ∧ ds = [.int cell, .int count] ∧ o = .ok (.lst ((drawsOf cell count.toNat).map D.int))
theorem draws_r {cell count : Int} (h0 : 0 ≤ count) (h1 : count ≤ 1000) : RDraws ([.int cell, .int count] ++ []) (.ok (.lst ((drawsOf cell count.toNat).map D.int))) := ⟨cell, count, h0, h1, rfl, rfl⟩
local macro_rules | `(tactic| walk_at "cl") => `(tactic| exact draws_r (by decide) (by decide))
section
variable {W : Wd} {S : Sg}
theorem ok_draws {f : Addr} {fd : FuncData} (F : Fd W.K "_law_draws" "_law_draws" s_law_draws [] f fd) (hK : W.K = S.K) (T : Mb W) :
    FnOk W.P W.w W.K W.mg W.base (L2N.CX W.P W.w) 1 f fd ["_law_cell", "_law_count"] (spOf S 2 RDraws) := by
  refine def_ok F hK s_law_draws_sc (fun ds o h => by obtain ⟨a, b, _, _, rfl, _⟩ := h; rfl) fun X U ds o b h => ?_
  obtain ⟨cell, count, h0, h1, rfl, rfl⟩ := h
  have C := b.C
  obtain ⟨n__law_cell, l__law_cell⟩ := b.nm 0 "_law_cell" rfl (.inl rfl) (by decide) (by decide)
  obtain ⟨n__law_count, l__law_count⟩ := b.nm 1 "_law_count" rfl (.inl rfl) (by decide) (by decide)
  obtain ⟨n__law_rest, l__law_rest⟩ := b.nm 2 "_law_rest" rfl (.inl rfl) (by decide) (by decide)
  obtain ⟨n__law_great, l__law_great⟩ := b.nm 3 "_law_great" rfl (.inl rfl) (by decide) (by decide)
  obtain ⟨n__law_pool, l__law_pool⟩ := b.nm 4 "_law_pool" rfl (.inl rfl) (by decide) (by decide)
  obtain ⟨n__law_k, l__law_k⟩ := b.nm 5 "_law_k" rfl (.inl rfl) (by decide) (by decide)
  obtain ⟨n__law_mixed, l__law_mixed⟩ := b.nm 6 "_law_mixed" rfl (.inl rfl) (by decide) (by decide)
  have g_abs := b.ng "abs" rfl (by decide)
  have m_abs := b.mg T.abs
  have g_range := b.ng "range" rfl (by decide)
  have m_range := b.mg T.range
  have g_int := b.ng "int" rfl (by decide)
  have m_int := b.mg T.int
  change XB _ _ _ [.v (.int cell), .v (.int count), .no, .no, .no, .no, .no] _ _
  walk_at "asg"
  walk_at "asg"
  refine' s_cons (s_asgN C.toKb l__law_pool (n_lst a_nil) ?k)
  change XB X S U [.v (.int cell), .v (.int count), .v (.int (absI cell)), .v (.bl (decide ((10 : Int) ^ (18 : Int).toNat ≤ absI cell))), .own [], .no, .no] _ _
  generalize hr : absI cell = r
  generalize hg : decide ((10 : Int) ^ (18 : Int).toNat ≤ r) = gr
  have hres : (drawsL gr r count.toNat).1 = drawsOf cell count.toNat := by unfold drawsOf; rw [hr, hg]
  refine s_mid (fun g => ∃ k m : Sl, g = [.v (.int cell), .v (.int count), .v (.int (drawsL gr r count.toNat).2), .v (.bl gr), .own ((drawsL gr r count.toNat).1.map D.int), k, m]) ?_ ?_
  · refine' s_for C (n := count.toNat) (it := fun i => .int (0 + i)) (i_range1 g_range m_range (a_cons (e_var n__law_count rfl) a_nil) ⟨by omega, by omega⟩)
      (fun i g => ∃ k m : Sl, g = [.v (.int cell), .v (.int count), .v (.int (drawsL gr r i).2), .v (.bl gr), .own ((drawsL gr r i).1.map D.int), k, m]) ⟨.no, .no, rfl⟩ ?_ (fun g h => h)
    rintro i g hi ⟨k, m, rfl⟩
    refine ⟨_, g_name C.toKb l__law_k, ?_⟩
    have hlen : ((drawsL gr r i).1.map D.int).length < 100000 := by rw [List.length_map, drawsL_len]; omega
    haveI hbi : Bd (i : Int) 10 := ⟨by rw [Int.natAbs_natCast]; omega⟩
    dsimp only [List.set_cons_succ, List.set_cons_zero]
    cases gr with
    | true =>
      walk_at "ifT"
      refine' s_cons (s_app C.toKb n__law_pool rfl ?x1 hlen ?k1)
      case x1 => walk_at "ex"
      walk_at "asg"
      refine s_nil (s_nil ⟨.v (.int (0 + (i : Int))), m, ?_⟩)
      simp [drawsL]
    | false =>
      have hr2 : (drawsL false r i).2 = r := drawsL_false i
      haveI hbr : Bd r 60 := ⟨by
        have h2 := of_decide_eq_false hg
        have h3 : ¬ (1000000000000000000 : Int) ≤ r := h2
        have h4 : 0 ≤ r := by rw [← hr]; unfold absI; split <;> omega
        omega⟩
      rw [hr2]
      walk_at "ifE"
      walk_at "asg"
      refine' s_cons (s_app C.toKb n__law_pool rfl ?x2 hlen ?k2)
      case x2 => walk_at "ex"
      refine s_nil (s_nil ⟨.v (.int (0 + (i : Int))), .v (.int ((r + 29 * (0 + (i : Int)) + 7) * (r + 13 * (0 + (i : Int)) + 5) % 1009)), ?_⟩)
      simp [drawsL, dVal, hr2]
  · rintro g ⟨k, m, rfl⟩
    refine s_cons (s_retOwn n__law_pool rfl ?_)
    rw [hres]
    rfl
end

abbrev s_law_same : Stmt := topS 30
theorem s_law_same_sc : FnScope ["_law_actual", "_law_due", "_law_kinds", "_law_k"] ["_law_actual", "_law_due"] (defScope s_law_same) := ⟨rfl, rfl, rfl, by decide +kernel, rfl, by decide +kernel, by decide +kernel⟩
mutual
def plain : D → Bool
  | .pt _ _ _ => false
  | .obj _ _ => false
  | .tup xs => Nat.ble xs.length 100000 && plains xs
  | .lst xs => Nat.ble xs.length 100000 && plains xs
  | _ => true
def plains : List D → Bool
  | [] => true
  | d :: ds => plain d && plains ds
end
/-- the same plain datum twice -/
def RSame (n : Nat) (ds : List D) (o : Out) : Prop := ∃ d, ds = [d, d] ∧ plain d = true ∧ deep d ≤ n ∧ o = .ok (.bl true)
theorem same_r {n : Nat} {d e : D} (h : d = e) (f : plain d = true) (hn : deep d ≤ n) : RSame n ([d, e] ++ []) (.ok (.bl true)) := ⟨d, by rw [h]; rfl, f, hn, rfl⟩
theorem plains_mem : ∀ {l : List D} {d : D}, plains l = true → d ∈ l → plain d = true
  | a :: l, d, h, m => by
    unfold plains at h
    rw [Bool.and_eq_true] at h
    rcases List.mem_cons.mp m with e | e
    · rw [e]; exact h.1
    · exact plains_mem h.2 e
theorem deeps_mem : ∀ {l : List D} {d : D}, d ∈ l → deep d ≤ deep.deeps l
  | a :: l, d, m => by
    unfold deep.deeps
    rcases List.mem_cons.mp m with e | e
    · rw [e]; exact Nat.le_max_left _ _
    · exact Nat.le_trans (deeps_mem e) (Nat.le_max_right _ _)
theorem itOf_at {l : List D} {i : Nat} (h : i < l.length) : atI l (0 + (i : Int)) = some (itOf l i) := by
  rw [Int.zero_add]
  exact Fw.atI_nat (itOf_get h)
section
variable {W : Wd} {S : Sg}
theorem same_body {X : Cx} {U : WX} {n : Nat} {d : D} (b : InB X W S n ["_law_actual", "_law_due", "_law_kinds", "_law_k"] (defScope s_law_same) U) (T : Mb W) (rec : ∀ m, n = m + 1 → Fn W S n "_law_same" 2 [] (RSame m)) (hf : plain d = true) (hn : deep d ≤ n) :
    XB X S U (enOf 4 [d, d]) (defBody s_law_same) (poOf (.ok (.bl true))) := by
  have C := b.C
  obtain ⟨n__law_actual, l__law_actual⟩ := b.nm 0 "_law_actual" rfl (.inl rfl) (by decide) (by decide)
  obtain ⟨n__law_due, l__law_due⟩ := b.nm 1 "_law_due" rfl (.inl rfl) (by decide) (by decide)
  obtain ⟨n__law_kinds, l__law_kinds⟩ := b.nm 2 "_law_kinds" rfl (.inl rfl) (by decide) (by decide)
  obtain ⟨n__law_k, l__law_k⟩ := b.nm 3 "_law_k" rfl (.inl rfl) (by decide) (by decide)
  have g_isinstance := b.ng "isinstance" rfl (by decide)
  have m_isinstance := b.mg T.isinstance
  have g_int := b.ng "int" rfl (by decide)
  have m_int := b.mg T.int
  have g_bool := b.ng "bool" rfl (by decide)
  have m_bool := b.mg T.bool
  have g_str := b.ng "str" rfl (by decide)
  have m_str := b.mg T.str
  have g_tuple := b.ng "tuple" rfl (by decide)
  have m_tuple := b.mg T.tuple
  have g_list := b.ng "list" rfl (by decide)
  have m_list := b.mg T.list
  have g_len := b.ng "len" rfl (by decide)
  have m_len := b.mg T.len
  have g_range := b.ng "range" rfl (by decide)
  have m_range := b.mg T.range
  have g__law_same := b.ng "_law_same" rfl (by decide)
  change XB _ _ _ [.v d, .v d, .no, .no] _ _
  have loop : ∀ l : List D, plains l = true → deep.deeps l < n → (∀ i < l.length, IxD X S d (.int (0 + (i : Int))) (itOf l i)) → CallD X S (.builtin "len") [d] (.int (l.length : Int)) → l.length ≤ 100000 →
      XB X S U [.v d, .v d, .no, .no] ((defBody s_law_same).drop 6) (poOf (.ok (.bl true))) := by
    intro l fl dl ix ln sm
    refine' s_mid (fun g => True) (s_for C (n := l.length) (it := fun i => .int (0 + i)) (i_range1 g_range m_range (a_cons (e_callB (id := "len") ln g_len m_len PyProof.Rows.Boot.«len» (a_cons (e_var n__law_due rfl) a_nil)) a_nil) ⟨by omega, by omega⟩)
      (fun i g => ∃ k : Sl, g = [.v d, .v d, .no, k]) ⟨.no, rfl⟩ ?_ (fun g h => trivial)) ?_
    · rintro i g hi ⟨k, rfl⟩
      refine ⟨_, g_name C.toKb l__law_k, ?_⟩
      dsimp only [List.set_cons_succ, List.set_cons_zero]
      obtain ⟨m, hm⟩ : ∃ m, n = m + 1 := ⟨n - 1, by omega⟩
      have f_rec := rec m hm
      have mem : itOf l i ∈ l := List.mem_of_getElem? (itOf_get hi)
      refine' s_cons (s_if (b := false) ?t1 (fun z => nomatch z) (fun _ => s_nil ?k1))
      case t1 =>
        refine' t_not (bb := true) (t_val (e_call C f_rec g__law_same ?a1 ?r1 ?h1 (Nat.le_refl _)))
        case a1 =>
          refine' a_cons (e_ix (e_var n__law_actual rfl) (e_var n__law_k rfl) (ix i hi)) (a_cons (e_ix (e_var n__law_due rfl) (e_var n__law_k rfl) (ix i hi)) a_nil)
        case h1 => rfl
        case r1 => exact same_r rfl (plains_mem fl mem) (by have := deeps_mem mem; omega)
      case k1 => exact s_nil ⟨_, rfl⟩
    · intro g _
      refine' s_cons (s_ret e_bl rfl)
  cases d with
  | non =>
    walk_at "ifT"
    walk_at "asg"
    walk_at "ret"
    rfl
  | bl v =>
    cases v with
    | true =>
      walk_at "ifT"
      walk_at "asg"
      walk_at "ret"
      rfl
    | false =>
      walk_at "ifT"
      walk_at "asg"
      walk_at "ret"
      rfl
  | int i =>
    walk_at "ifF"
    walk_at "ifT"
    walk_at "ret"
    show D.bl _ = D.bl _
    simp [isTy]
  | str x =>
    walk_at "ifF"
    walk_at "ifF"
    walk_at "ifT"
    walk_at "ret"
    show D.bl _ = D.bl _
    simp [isTy]
  | tup l =>
    unfold plain at hf
    rw [Bool.and_eq_true] at hf
    obtain ⟨hz, hf⟩ := hf
    have hs := Nat.le_of_ble_eq_true hz
    clear hz
    have hn' : deep.deeps l + 1 ≤ n := hn
    walk_at "ifF"
    walk_at "ifF"
    walk_at "ifF"
    walk_at "ifF"
    walk_at "ifF"
    walk_at "ifF"
    exact loop l hf (by omega) (fun i hi => x_tup C.toKb (itOf_at hi)) (k_lenT C.toKb) hs
  | lst l =>
    unfold plain at hf
    rw [Bool.and_eq_true] at hf
    obtain ⟨hz, hf⟩ := hf
    have hs := Nat.le_of_ble_eq_true hz
    clear hz
    have hn' : deep.deeps l + 1 ≤ n := hn
    walk_at "ifF"
    walk_at "ifF"
    walk_at "ifF"
    walk_at "ifF"
    walk_at "ifF"
    walk_at "ifF"
    exact loop l hf (by omega) (fun i hi => x_lst C.toKb (itOf_at hi)) (k_lenL C.toKb) hs
  | pt => cases hf
  | obj => cases hf
theorem same_one {f : Addr} {fd : FuncData} {n : Nat} (F : Fd W.K "_law_same" "_law_same" s_law_same [] f fd) (hK : W.K = S.K) (T : Mb W) (rec : ∀ m, n = m + 1 → Fn W S n "_law_same" 2 [] (RSame m)) : FnOk W.P W.w W.K W.mg W.base (L2N.CX W.P W.w) (n + 1) f fd ["_law_actual", "_law_due"] (spOf S 2 (RSame n)) := by
  refine def_ok F hK s_law_same_sc (fun ds o h => by obtain ⟨_, rfl, _⟩ := h; rfl) fun X U ds o b h => ?_
  obtain ⟨d, rfl, hp, hd, rfl⟩ := h
  exact same_body b T rec hp hd
theorem ok_same {f : Addr} {fd : FuncData} (F : Fd W.K "_law_same" "_law_same" s_law_same [] f fd) (hK : W.K = S.K) (T : Mb W) (hm : W.mg "_law_same" = some (.ref f)) (hk : PySem.W.keepIn W.K (.ref f) = true) (hb : Binds W.K fd ["_law_actual", "_law_due"] []) :
    ∀ n, FnOk W.P W.w W.K W.mg W.base (L2N.CX W.P W.w) (n + 1) f fd ["_law_actual", "_law_due"] (spOf S 2 (RSame n))
  | 0 => same_one F hK T fun m h => nomatch h
  | n + 1 => same_one F hK T fun m h => by
    cases h
    exact ⟨f, fd, _, ok_same F hK T hm hk hb n, hm, hk, rfl, [], [], hb, .nil, fun _ => .nil⟩
/-- .. of any two numbers -/
def RSameN (ds : List D) (o : Out) : Prop := ∃ i j : Int, ds = [.int i, .int j] ∧ o = .ok (.bl (decide (i = j)))
theorem ok_sameN {f : Addr} {fd : FuncData} (F : Fd W.K "_law_same" "_law_same" s_law_same [] f fd) (hK : W.K = S.K) (T : Mb W) : FnOk W.P W.w W.K W.mg W.base (L2N.CX W.P W.w) 1 f fd ["_law_actual", "_law_due"] (spOf S 2 RSameN) := by
  refine def_ok F hK s_law_same_sc (fun ds o h => by obtain ⟨_, _, rfl, _⟩ := h; rfl) fun X U ds o b h => ?_
  obtain ⟨i, j, rfl, rfl⟩ := h
  have C := b.C
  obtain ⟨n__law_actual, l__law_actual⟩ := b.nm 0 "_law_actual" rfl (.inl rfl) (by decide) (by decide)
  obtain ⟨n__law_due, l__law_due⟩ := b.nm 1 "_law_due" rfl (.inl rfl) (by decide) (by decide)
  obtain ⟨n__law_kinds, l__law_kinds⟩ := b.nm 2 "_law_kinds" rfl (.inl rfl) (by decide) (by decide)
  obtain ⟨n__law_k, l__law_k⟩ := b.nm 3 "_law_k" rfl (.inl rfl) (by decide) (by decide)
  have g_isinstance := b.ng "isinstance" rfl (by decide)
  have m_isinstance := b.mg T.isinstance
  have g_int := b.ng "int" rfl (by decide)
  have m_int := b.mg T.int
  have g_bool := b.ng "bool" rfl (by decide)
  have m_bool := b.mg T.bool
  have g_str := b.ng "str" rfl (by decide)
  have m_str := b.mg T.str
  have g_tuple := b.ng "tuple" rfl (by decide)
  have m_tuple := b.mg T.tuple
  have g_list := b.ng "list" rfl (by decide)
  have m_list := b.mg T.list
  have g_len := b.ng "len" rfl (by decide)
  have m_len := b.mg T.len
  have g_range := b.ng "range" rfl (by decide)
  have m_range := b.mg T.range
  have g__law_same := b.ng "_law_same" rfl (by decide)
  change XB _ _ _ [.v (.int i), .v (.int j), .no, .no] _ _
  walk_at "ifF"
  walk_at "ifT"
  walk_at "ret"
  show D.bl _ = D.bl _
  simp [isTy]
/-- .. of numbers, an exception being handled -/
def RSameI (ds : List D) (o : Out) : Prop := ∃ i : Int, ds = [.int i, .int i] ∧ o = .ok (.bl true)
theorem hot_same {f : Addr} {fd : FuncData} (F : Fd W.K "_law_same" "_law_same" s_law_same [] f fd) (hK : W.K = S.K) (T : Mb W) : L2H.FnH W.P W.w W.K W.mg W.base (L2N.CX W.P W.w) 1 f fd ["_law_actual", "_law_due"] (spOf S 2 RSameI) := by
  refine def_hot F hK s_law_same_sc (fun ds o h => by obtain ⟨_, _, rfl⟩ := h; exact ⟨_, rfl⟩) fun X U ds o b h => ?_
  obtain ⟨i, rfl, rfl⟩ := h
  have C := b.C
  obtain ⟨n__law_actual, l__law_actual⟩ := b.nm 0 "_law_actual" rfl (.inl rfl) (by decide) (by decide)
  obtain ⟨n__law_due, l__law_due⟩ := b.nm 1 "_law_due" rfl (.inl rfl) (by decide) (by decide)
  obtain ⟨n__law_kinds, l__law_kinds⟩ := b.nm 2 "_law_kinds" rfl (.inl rfl) (by decide) (by decide)
  obtain ⟨n__law_k, l__law_k⟩ := b.nm 3 "_law_k" rfl (.inl rfl) (by decide) (by decide)
  have g_isinstance := b.ng "isinstance" rfl (by decide)
  have m_isinstance := b.mg T.isinstance
  have g_int := b.ng "int" rfl (by decide)
  have m_int := b.mg T.int
  have g_bool := b.ng "bool" rfl (by decide)
  have m_bool := b.mg T.bool
  have g_str := b.ng "str" rfl (by decide)
  have m_str := b.mg T.str
  have g_tuple := b.ng "tuple" rfl (by decide)
  have m_tuple := b.mg T.tuple
  have g_list := b.ng "list" rfl (by decide)
  have m_list := b.mg T.list
  have g_len := b.ng "len" rfl (by decide)
  have m_len := b.mg T.len
  have g_range := b.ng "range" rfl (by decide)
  have m_range := b.mg T.range
  have g__law_same := b.ng "_law_same" rfl (by decide)
  change XB _ _ _ [.v (.int i), .v (.int i), .no, .no] _ _
  walk_at "ifF"
  walk_at "ifT"
  walk_at "ret"
  show D.bl _ = D.bl _
  simp [isTy]
/-- .. of pairs of numbers, an exception being handled -/
def RSameP (ds : List D) (o : Out) : Prop := ∃ i j : Int, ds = [D.tup [.int i, .int j], D.tup [.int i, .int j]] ∧ o = .ok (.bl true)
theorem hot_same2 {f : Addr} {fd : FuncData} (F : Fd W.K "_law_same" "_law_same" s_law_same [] f fd) (hK : W.K = S.K) (T : Mb W) (h_same : FnHt W S 1 "_law_same" 2 RSameI) : L2H.FnH W.P W.w W.K W.mg W.base (L2N.CX W.P W.w) 2 f fd ["_law_actual", "_law_due"] (spOf S 2 RSameP) := by
  refine def_hot F hK s_law_same_sc (fun ds o h => by obtain ⟨_, _, _, rfl⟩ := h; exact ⟨_, rfl⟩) fun X U ds o b h => ?_
  obtain ⟨i, j, rfl, rfl⟩ := h
  have C := b.C
  obtain ⟨n__law_actual, l__law_actual⟩ := b.nm 0 "_law_actual" rfl (.inl rfl) (by decide) (by decide)
  obtain ⟨n__law_due, l__law_due⟩ := b.nm 1 "_law_due" rfl (.inl rfl) (by decide) (by decide)
  obtain ⟨n__law_kinds, l__law_kinds⟩ := b.nm 2 "_law_kinds" rfl (.inl rfl) (by decide) (by decide)
  obtain ⟨n__law_k, l__law_k⟩ := b.nm 3 "_law_k" rfl (.inl rfl) (by decide) (by decide)
  have g_isinstance := b.ng "isinstance" rfl (by decide)
  have m_isinstance := b.mg T.isinstance
  have g_int := b.ng "int" rfl (by decide)
  have m_int := b.mg T.int
  have g_bool := b.ng "bool" rfl (by decide)
  have m_bool := b.mg T.bool
  have g_str := b.ng "str" rfl (by decide)
  have m_str := b.mg T.str
  have g_tuple := b.ng "tuple" rfl (by decide)
  have m_tuple := b.mg T.tuple
  have g_list := b.ng "list" rfl (by decide)
  have m_list := b.mg T.list
  have g_len := b.ng "len" rfl (by decide)
  have m_len := b.mg T.len
  have g_range := b.ng "range" rfl (by decide)
  have m_range := b.mg T.range
  have g__law_same := b.ng "_law_same" rfl (by decide)
  change XB _ _ _ [.v (.tup [.int i, .int j]), .v (.tup [.int i, .int j]), .no, .no] _ _
  walk_at "ifF"
  walk_at "ifF"
  walk_at "ifF"
  walk_at "ifF"
  walk_at "ifF"
  walk_at "ifF"
  refine' s_mid (fun g => True) (s_forH C g_range m_range (a_cons (e_callB (id := "len") (k_lenT C.toKb) g_len m_len PyProof.Rows.Boot.«len» (a_cons (e_var n__law_due rfl) a_nil)) a_nil) ⟨by show -(2 ^ 62) ≤ (2 : Int); decide, by show (2 : Int) < 2 ^ 62; decide⟩ (fun i' g => ∃ k : Sl, g = [.v (.tup [.int i, .int j]), .v (.tup [.int i, .int j]), .no, k]) ⟨.no, rfl⟩ ?_ (fun g h => trivial)) ?_
  · rintro n g hn ⟨k, rfl⟩
    have hn' : n < 2 := hn
    refine ⟨_, g_name C.toKb l__law_k, ?_⟩
    dsimp only [List.set_cons_succ, List.set_cons_zero]
    obtain ⟨z, hz⟩ : ∃ z : Int, atI [D.int i, D.int j] (0 + (n : Int)) = some (.int z) := by
      have : n = 0 ∨ n = 1 := by omega
      rcases this with h | h <;> subst h
      · exact ⟨i, rfl⟩
      · exact ⟨j, rfl⟩
    refine' s_cons (s_if (b := false) ?t1 (fun z => nomatch z) (fun _ => s_nil ?k1))
    case t1 =>
      refine' t_not (bb := true) (t_val (e_callHt C h_same g__law_same ?a1 ⟨z, rfl, rfl⟩ rfl (by decide)))
      exact a_cons (e_ix (e_var n__law_actual rfl) (e_var n__law_k rfl) (x_tup C.toKb hz)) (a_cons (e_ix (e_var n__law_due rfl) (e_var n__law_k rfl) (x_tup C.toKb hz)) a_nil)
    case k1 => exact s_nil ⟨_, rfl⟩
  · intro g _
    refine' s_cons (s_ret e_bl rfl)
end
local macro_rules | `(tactic| walk_at "cl") => `(tactic| exact same_r (by walk_at "sm") (by first | rfl | assumption) (by exact Nat.le_of_ble_eq_true rfl))

abbrev s_law_gcd : Stmt := topS 31
theorem s_law_gcd_sc : FnScope ["_law_one", "_law_two", "_law_rest"] ["_law_one", "_law_two"] (defScope s_law_gcd) := ⟨rfl, rfl, rfl, by decide +kernel, rfl, by decide +kernel, by decide +kernel⟩
theorem lgcd_r {a b : Int} : RGcd ([.int a, .int b] ++ []) (.ok (.int (Int.gcd a b : Int))) := ⟨a, b, rfl, rfl⟩
section
variable {W : Wd} {S : Sg}
theorem ok_lgcd {f : Addr} {fd : FuncData} (F : Fd W.K "_law_gcd" "_law_gcd" s_law_gcd [] f fd) (hK : W.K = S.K) (T : Mb W) : FnOk W.P W.w W.K W.mg W.base (L2N.CX W.P W.w) 1 f fd ["_law_one", "_law_two"] (spOf S 2 RGcd) := by
  refine def_ok F hK s_law_gcd_sc (fun ds o h => by obtain ⟨a, b, rfl, _⟩ := h; rfl) fun X U ds o b h => ?_
  obtain ⟨p, q, rfl, rfl⟩ := h
  have C := b.C
  obtain ⟨n__law_one, l__law_one⟩ := b.nm 0 "_law_one" rfl (.inl rfl) (by decide) (by decide)
  obtain ⟨n__law_two, l__law_two⟩ := b.nm 1 "_law_two" rfl (.inl rfl) (by decide) (by decide)
  obtain ⟨n__law_rest, l__law_rest⟩ := b.nm 2 "_law_rest" rfl (.inl rfl) (by decide) (by decide)
  have g_abs := b.ng "abs" rfl (by decide)
  have m_abs := b.mg T.abs
  have g_int := b.ng "int" rfl (by decide)
  have m_int := b.mg T.int
  change XB _ _ _ [.v (.int p), .v (.int q), .no] _ _
  walk_at "asg"
  walk_at "asg"
  refine s_mid (fun g => ∃ (u : Int) (k : Sl), g = [.v (.int u), .v (.int 0), k] ∧ 0 ≤ u ∧ Int.gcd u 0 = Int.gcd p q) ?_ ?_
  · refine s_while C.toKb (fun m g => ∃ (u v : Int) (k : Sl), g = [.v (.int u), .v (.int v), k] ∧ 0 ≤ u ∧ 0 ≤ v ∧ Int.gcd u v = Int.gcd p q ∧ m = v.natAbs) _ ⟨_, _, _, rfl, by split <;> omega, by split <;> omega, by split <;> split <;> simp [Int.gcd_neg, Int.neg_gcd], rfl⟩ ?_
    rintro m g ⟨u, v, k, rfl, h0, h1, h2, rfl⟩
    refine' ⟨_, ?tx, ?y, ?n⟩
    case tx => walk_at "tx"
    case n =>
      intro hb
      have hv : ¬ 0 < v := by simpa using hb
      have e : v = 0 := by omega
      subst e
      exact ⟨u, k, rfl, h0, h2⟩
    case y =>
      intro hb
      have hv : 0 < v := by simpa using hb
      walk_at "asg"
      walk_at "asg"
      walk_at "asg"
      have e1 := Int.emod_nonneg u (show v ≠ 0 by omega)
      have e2 := Int.emod_lt_of_pos u hv
      have e := @Int.fmod_eq_emod u v
      rw [if_pos (.inl h1)] at e
      have e' : u % v = u.fmod v := by rw [e]; omega
      exact s_nil ⟨(u % v).natAbs, by omega, v, u % v, _, rfl, h1, e1, by rw [e', gcd_fmod, h2], rfl⟩
  · rintro g ⟨u, k, rfl, h0, h1⟩
    walk_at "ret"
    show D.int _ = D.int _
    rw [← h1]
    simp
    omega
end

def gI (L : List Int) (i : Int) : Int := L.getD i.toNat 0
def pool (L : List Int) : Prop := ∀ x ∈ L, 0 ≤ x ∧ x < 1000
theorem gI_in {L : List Int} {i : Int} (h : pool L) : 0 ≤ gI L i ∧ gI L i < 1000 := by
  unfold gI
  rw [List.getD_eq_getElem?_getD]
  cases e : L[i.toNat]? with
  | none => exact ⟨by decide, by decide⟩
  | some x => exact h x (List.mem_of_getElem? e)
theorem atI_pool {L : List Int} {i : Int} (h0 : 0 ≤ i) (h : i < L.length) : atI (L.map D.int) i = some (.int (gI L i)) := Fw.atI_int h0 h
local macro_rules | `(tactic| walk_at "at") => `(tactic| exact atI_pool (by first | assumption | decide | omega) (by first | assumption | omega))

abbrev s_law_draw_over : Stmt := topS 34
theorem s_law_draw_over_sc : FnScope ["_law_pool", "_law_at"] ["_law_pool", "_law_at"] (defScope s_law_draw_over) := ⟨rfl, rfl, rfl, by decide +kernel, rfl, by decide +kernel, by decide +kernel⟩
def overL (L : List Int) (a : Int) : Int := if gI L a % 3 = 0 then 1 else if gI L a % 3 = 1 then 1 + gI L (a + 1) % 12 else 1 + gI L (a + 1)
theorem overL_in {L : List Int} {a : Int} (h : pool L) : 0 < overL L a ∧ overL L a ≤ 1000 := by
  have h1 := gI_in (i := a + 1) h
  unfold overL
  split
  · omega
  · split <;> omega
def ROver (ds : List D) (o : Out) : Prop := ∃ (L : List Int) (a : Int), 0 ≤ a ∧ a + 1 < L.length ∧ pool L ∧ ds = [.lst (L.map D.int), .int a] ∧ o = .ok (.int (overL L a))
theorem over_r {L : List Int} {a : Int} (h : 0 ≤ a) (h1 : a + 1 < L.length) (h2 : pool L) : ROver ([.lst (L.map D.int), .int a] ++ []) (.ok (.int (overL L a))) := ⟨L, a, h, h1, h2, rfl, rfl⟩
section
variable {W : Wd} {S : Sg}
theorem ok_over {f : Addr} {fd : FuncData} (F : Fd W.K "_law_draw_over" "_law_draw_over" s_law_draw_over [] f fd) (hK : W.K = S.K) (T : Mb W) :
    FnOk W.P W.w W.K W.mg W.base (L2N.CX W.P W.w) 1 f fd ["_law_pool", "_law_at"] (spOf S 2 ROver) := by
  refine def_ok F hK s_law_draw_over_sc (fun ds o h => by obtain ⟨a, b, _, _, _, rfl, _⟩ := h; rfl) fun X U ds o b h => ?_
  obtain ⟨L, a, h0, h1, h2, rfl, rfl⟩ := h
  have C := b.C
  obtain ⟨n__law_pool, l__law_pool⟩ := b.nm 0 "_law_pool" rfl (.inl rfl) (by decide) (by decide)
  obtain ⟨n__law_at, l__law_at⟩ := b.nm 1 "_law_at" rfl (.inl rfl) (by decide) (by decide)
  have g_int := b.ng "int" rfl (by decide)
  have m_int := b.mg T.int
  change XB _ _ _ [.v (.lst (L.map D.int)), .v (.int a)] _ _
  by_cases z0 : gI L a % 3 = 0
  · walk_at "ifT"
    walk_at "ret"
    show D.int _ = D.int _
    unfold overL
    rw [if_pos z0]
  · walk_at "ifF"
    by_cases z1 : gI L a % 3 = 1
    · walk_at "ifT"
      walk_at "ret"
      show D.int _ = D.int _
      unfold overL
      rw [if_neg z0, if_pos z1]
    · walk_at "ifF"
      walk_at "ret"
      show D.int _ = D.int _
      unfold overL
      rw [if_neg z0, if_neg z1]
end
local macro_rules | `(tactic| walk_at "cl") => `(tactic| exact over_r (by first | assumption | decide | omega) (by first | assumption | omega) (by assumption))

/-! ### fractions and points -/
def g3 (x y v : Int) : Int := (Int.gcd (Int.gcd x y : Int) v : Int)
theorem g3_pos {x y v : Int} (h : 0 < v) : 0 < g3 x y v := gcd_pos h
theorem gcd_mulI {a b f : Int} (h : 0 < f) : (Int.gcd (a * f) (b * f) : Int) = (Int.gcd a b : Int) * f := by
  rw [Int.gcd_mul_right]
  have : (f.natAbs : Int) = f := by omega
  rw [Int.natCast_mul, this]
theorem lowT_mul {n d f : Int} (h : 0 < f) : lowT (n * f) (d * f) = lowT n d := by
  unfold lowT
  rw [gcd_mulI h, Int.mul_ediv_mul_of_pos_left _ _ h, Int.mul_ediv_mul_of_pos_left _ _ h]
theorem g3_mul {x y v f : Int} (h : 0 < f) : g3 (x * f) (y * f) (v * f) = g3 x y v * f := by
  unfold g3
  rw [gcd_mulI h, gcd_mulI h]
theorem normP_g {x y v : Int} : normP x y v = .pt (x / g3 x y v) (y / g3 x y v) (v / g3 x y v) := rfl
theorem normP_mul {x y v f : Int} (h : 0 < f) : normP (x * f) (y * f) (v * f) = normP x y v := by
  rw [normP_g, normP_g, g3_mul h, Int.mul_ediv_mul_of_pos_left _ _ h, Int.mul_ediv_mul_of_pos_left _ _ h, Int.mul_ediv_mul_of_pos_left _ _ h]
theorem g3_one {x y : Int} : g3 x y 1 = 1 := by
  unfold g3
  rw [Int.gcd_one_right]
  rfl
theorem normP_one {x y : Int} : normP x y 1 = .pt x y 1 := by
  rw [normP_g, g3_one]
  simp
theorem lowT_zero {v : Int} (h : 0 < v) : lowT 0 v = .tup [.int 0, .int 1] := by
  unfold lowT
  have e : ((Int.gcd 0 v : Nat) : Int) = v := by rw [Int.gcd_zero_left]; omega
  rw [e, Int.zero_ediv, Int.ediv_self (by omega)]
theorem normP_zero {v : Int} (h : 0 < v) : normP 0 0 v = .pt 0 0 1 := by
  have e : g3 0 0 v = v := by
    unfold g3
    rw [Int.gcd_zero_left (a := 0)]
    show ((Int.gcd ((0 : Nat) : Int) v : Nat) : Int) = v
    rw [Int.ofNat_zero, Int.gcd_zero_left]
    omega
  rw [normP_g, e, Int.zero_ediv, Int.ediv_self (by omega)]
theorem g3_dvd {x y v : Int} : g3 x y v ∣ x ∧ g3 x y v ∣ y ∧ g3 x y v ∣ v := by
  have h1 : g3 x y v ∣ (Int.gcd x y : Int) := Int.gcd_dvd_left _ _
  exact ⟨Int.dvd_trans h1 (Int.gcd_dvd_left _ _), Int.dvd_trans h1 (Int.gcd_dvd_right _ _), Int.gcd_dvd_right _ _⟩
theorem div_g {x g : Int} (h : g ∣ x) : x / g * g = x := Int.ediv_mul_cancel h
theorem normP_cross {a b c x y v : Int} (hc : 0 < c) (hv : 0 < v) (h1 : a * v = x * c) (h2 : b * v = y * c) : normP a b c = normP x y v := by
  rw [← normP_mul (x := a) (y := b) (v := c) hv, ← normP_mul (x := x) (y := y) (v := v) hc, h1, h2, Int.mul_comm c v]
theorem lowT_cross {a c x v : Int} (hc : 0 < c) (hv : 0 < v) (h1 : a * v = x * c) : lowT a c = lowT x v := by
  rw [← lowT_mul (n := a) (d := c) hv, ← lowT_mul (n := x) (d := v) hc, h1, Int.mul_comm c v]

abbrev s_law_in_terms : Stmt := topS 32
theorem s_law_in_terms_sc : FnScope ["_law_x", "_law_y", "_law_over", "_law_shared"] ["_law_x", "_law_y", "_law_over"] (defScope s_law_in_terms) := ⟨rfl, rfl, rfl, by decide +kernel, rfl, by decide +kernel, by decide +kernel⟩
def termsT (x y v : Int) : D := .tup [.int (x / g3 x y v), .int (y / g3 x y v), .int (v / g3 x y v)]
def RTerms (ds : List D) (o : Out) : Prop := ∃ x y v : Int, 0 < v ∧ Bd v 8000 ∧ ds = [.int x, .int y, .int v] ∧ o = .ok (termsT x y v)
theorem terms_r {x y v : Int} {m : Nat} [b : Bd v m] (h : 0 < v) (hm : m ≤ 8000) : RTerms ([.int x, .int y, .int v] ++ []) (.ok (termsT x y v)) := ⟨x, y, v, h, ⟨b.up hm⟩, rfl, rfl⟩
local macro_rules | `(tactic| walk_at "cl") => `(tactic| exact terms_r (by first | assumption | decide | omega) (by decide +kernel))
section
variable {W : Wd} {S : Sg}
theorem ok_interms {f : Addr} {fd : FuncData} (F : Fd W.K "_law_in_terms" "_law_in_terms" s_law_in_terms [] f fd) (hK : W.K = S.K) (T : Mb W) (f_lgcd : Fn W S 1 "_law_gcd" 2 [] RGcd) :
    FnOk W.P W.w W.K W.mg W.base (L2N.CX W.P W.w) 2 f fd ["_law_x", "_law_y", "_law_over"] (spOf S 3 RTerms) := by
  refine def_ok F hK s_law_in_terms_sc (fun ds o h => by obtain ⟨_, _, _, _, _, rfl, _⟩ := h; rfl) fun X U ds o b h => ?_
  obtain ⟨x, y, v, h0, h1, rfl, rfl⟩ := h
  have C := b.C
  obtain ⟨n__law_x, l__law_x⟩ := b.nm 0 "_law_x" rfl (.inl rfl) (by decide) (by decide)
  obtain ⟨n__law_y, l__law_y⟩ := b.nm 1 "_law_y" rfl (.inl rfl) (by decide) (by decide)
  obtain ⟨n__law_over, l__law_over⟩ := b.nm 2 "_law_over" rfl (.inl rfl) (by decide) (by decide)
  obtain ⟨n__law_shared, l__law_shared⟩ := b.nm 3 "_law_shared" rfl (.inl rfl) (by decide) (by decide)
  have g__law_gcd := b.ng "_law_gcd" rfl (by decide)
  change XB _ _ _ [.v (.int x), .v (.int y), .v (.int v), .no] _ _
  walk_at "asg"
  have hg := gcd_pos (n := (Int.gcd x y : Int)) h0
  haveI := gcd_small (n := (Int.gcd x y : Int)) h0 h1
  walk_at "ret"
  rfl
end

abbrev s_law_is_point : Stmt := topS 33
theorem s_law_is_point_sc : FnScope ["_law_point", "_law_x", "_law_y", "_law_over"] ["_law_point", "_law_x", "_law_y", "_law_over"] (defScope s_law_is_point) := ⟨rfl, rfl, rfl, by decide +kernel, rfl, by decide +kernel, by decide +kernel⟩
def RIsPt (ds : List D) (o : Out) : Prop := ∃ x y v : Int, 0 < v ∧ Bd v 8000 ∧ ds = [normP x y v, .int x, .int y, .int v] ∧ o = .ok (.bl true)
theorem isp_r {d : D} {x y v : Int} {m : Nat} [b : Bd v m] (e : d = normP x y v) (h : 0 < v) (hm : m ≤ 8000) : RIsPt ([d, .int x, .int y, .int v] ++ []) (.ok (.bl true)) := ⟨x, y, v, h, ⟨b.up hm⟩, by rw [e]; rfl, rfl⟩
section
variable {W : Wd} {S : Sg}
theorem ok_ispoint {f : Addr} {fd : FuncData} (F : Fd W.K "_law_is_point" "_law_is_point" s_law_is_point [] f fd) (hK : W.K = S.K) (T : Mb W) (TP : PtC W S) (f_same : Fn W S 4 "_law_same" 2 [] (RSame 3)) (f_interms : Fn W S 2 "_law_in_terms" 3 [] RTerms) :
    FnOk W.P W.w W.K W.mg W.base (L2N.CX W.P W.w) 6 f fd ["_law_point", "_law_x", "_law_y", "_law_over"] (spOf S 4 RIsPt) := by
  refine def_ok F hK s_law_is_point_sc (fun ds o h => by obtain ⟨_, _, _, _, _, rfl, _⟩ := h; rfl) fun X U ds o b h => ?_
  obtain ⟨x, y, v, h0, h1, rfl, rfl⟩ := h
  have C := b.C
  obtain ⟨n__law_point, l__law_point⟩ := b.nm 0 "_law_point" rfl (.inl rfl) (by decide) (by decide)
  obtain ⟨n__law_x, l__law_x⟩ := b.nm 1 "_law_x" rfl (.inl rfl) (by decide) (by decide)
  obtain ⟨n__law_y, l__law_y⟩ := b.nm 2 "_law_y" rfl (.inl rfl) (by decide) (by decide)
  obtain ⟨n__law_over, l__law_over⟩ := b.nm 3 "_law_over" rfl (.inl rfl) (by decide) (by decide)
  have g_isinstance := b.ng "isinstance" rfl (by decide)
  have m_isinstance := b.mg T.isinstance
  have g_Point := b.ng "Point" rfl (by decide)
  have g__law_same := b.ng "_law_same" rfl (by decide)
  have g__law_in_terms := b.ng "_law_in_terms" rfl (by decide)
  change XB _ _ _ [.v (normP x y v), .v (.int x), .v (.int y), .v (.int v)] _ _
  walk_at "ifF"
  walk_at "ret"
  rfl
end
local macro_rules | `(tactic| walk_at "cl") => `(tactic| exact isp_r (by first | assumption | rfl) (by first | assumption | omega) (by decide +kernel))

abbrev s_law_turn : Stmt := topS 35
theorem s_law_turn_sc : FnScope ["_law_start", "_law_end", "_law_spot"] ["_law_start", "_law_end", "_law_spot"] (defScope s_law_turn) := ⟨rfl, rfl, rfl, by decide +kernel, rfl, by decide +kernel, by decide +kernel⟩
def turnI (a b p : PI2) : Int := (b.1 - a.1) * (p.2 - a.2) - (b.2 - a.2) * (p.1 - a.1)
def b2 (p : PI2) : Prop := Bd p.1 300 ∧ Bd p.2 300
def RTrn (ds : List D) (o : Out) : Prop := ∃ a b p : PI2, b2 a ∧ b2 b ∧ b2 p ∧ ds = [pairD a, pairD b, pairD p] ∧ o = .ok (.int (turnI a b p))
theorem trn_r {a b p : PI2} (h1 : b2 a) (h2 : b2 b) (h3 : b2 p) : RTrn ([pairD a, pairD b, pairD p] ++ []) (.ok (.int (turnI a b p))) := ⟨a, b, p, h1, h2, h3, rfl, rfl⟩
section
variable {W : Wd} {S : Sg}
theorem ok_lturn {f : Addr} {fd : FuncData} (F : Fd W.K "_law_turn" "_law_turn" s_law_turn [] f fd) (hK : W.K = S.K) (T : Mb W) : FnOk W.P W.w W.K W.mg W.base (L2N.CX W.P W.w) 1 f fd ["_law_start", "_law_end", "_law_spot"] (spOf S 3 RTrn) := by
  refine def_ok F hK s_law_turn_sc (fun ds o h => by obtain ⟨_, _, _, _, _, _, rfl, _⟩ := h; rfl) fun X U ds o b h => ?_
  obtain ⟨⟨a1, a2⟩, ⟨b1, b2⟩, ⟨p1, p2⟩, ⟨_, _⟩, ⟨_, _⟩, ⟨_, _⟩, rfl, rfl⟩ := h
  have C := b.C
  obtain ⟨n__law_start, l__law_start⟩ := b.nm 0 "_law_start" rfl (.inl rfl) (by decide) (by decide)
  obtain ⟨n__law_end, l__law_end⟩ := b.nm 1 "_law_end" rfl (.inl rfl) (by decide) (by decide)
  obtain ⟨n__law_spot, l__law_spot⟩ := b.nm 2 "_law_spot" rfl (.inl rfl) (by decide) (by decide)
  change XB _ _ _ [.v (.tup [.int a1, .int a2]), .v (.tup [.int b1, .int b2]), .v (.tup [.int p1, .int p2])] _ _
  walk_at "ret"
  rfl
end
local macro_rules | `(tactic| walk_at "cl") => `(tactic| exact trn_r (by assumption) (by assumption) (by assumption))

abbrev s_law_half_hull : Stmt := topS 36
theorem s_law_half_hull_sc : FnScope ["_law_spots", "_law_chain", "_law_spot"] ["_law_spots"] (defScope s_law_half_hull) := ⟨rfl, rfl, rfl, by decide +kernel, rfl, by decide +kernel, by decide +kernel⟩
/-- the chain as a pile, its top first -/
def pushC : List PI2 → PI2 → List PI2
  | b :: a :: r, p => if turnI a b p > 0 then p :: b :: a :: r else pushC (a :: r) p
  | s, p => p :: s
def halfR (l : List PI2) : List PI2 := l.foldl pushC []
def halfH (l : List PI2) : List PI2 := (halfR l).reverse
theorem pushC_len : ∀ (s : List PI2) (p : PI2), (pushC s p).length ≤ s.length + 1
  | b :: a :: r, p => by
    unfold pushC
    split
    · simp
    · have := pushC_len (a :: r) p
      simp only [List.length_cons] at this ⊢
      omega
  | [], p => by simp [pushC]
  | [a], p => by simp [pushC]
theorem halfR_snoc {l : List PI2} {p : PI2} : halfR (l ++ [p]) = pushC (halfR l) p := by
  unfold halfR
  rw [List.foldl_append]
  rfl
theorem halfR_len : ∀ (n : Nat) (l : List PI2), l.length = n → (halfR l).length ≤ n
  | 0, l, h => by
    have : l = [] := List.eq_nil_of_length_eq_zero h
    subst this
    exact Nat.le_refl _
  | n + 1, l, h => by
    obtain ⟨m, p, e⟩ : ∃ m p, l = m ++ [p] := by
      have hne : l ≠ [] := fun z => by rw [z] at h; cases h
      exact ⟨l.dropLast, l.getLast hne, (List.dropLast_concat_getLast hne).symm⟩
    subst e
    rw [List.length_append] at h
    have := halfR_len n m (by simpa using h)
    have h2 := pushC_len (halfR m) p
    rw [halfR_snoc]
    omega
theorem pushC_mem {z : PI2} : ∀ {s : List PI2} {p : PI2}, z ∈ pushC s p → z = p ∨ z ∈ s
  | b :: a :: r, p, h => by
    unfold pushC at h
    split at h
    · exact List.mem_cons.mp h
    · exact (pushC_mem h).imp id fun q => List.mem_cons_of_mem _ q
  | [], p, h => by simpa [pushC] using h
  | [a], p, h => by simpa [pushC] using h
theorem halfR_mem {z : PI2} {l : List PI2} : z ∈ halfR l → z ∈ l := by
  have key : ∀ (l s : List PI2), z ∈ l.foldl pushC s → z ∈ l ∨ z ∈ s := fun l => by
    induction l with
    | nil => exact fun s h => .inr h
    | cons p l ih =>
      intro s h
      rcases ih _ h with q | q
      · exact .inl (List.mem_cons_of_mem _ q)
      · rcases pushC_mem q with q | q
        · exact .inl (q ▸ List.mem_cons_self)
        · exact .inr q
  intro h
  rcases key l [] h with q | q
  · exact q
  · cases q
def RHalf (ds : List D) (o : Out) : Prop := ∃ l : List PI2, l.length ≤ 1200 ∧ (∀ p ∈ l, b2 p) ∧ ds = [.lst (l.map pairD)] ∧ o = .ok (.lst ((halfH l).map pairD))
theorem half_r {l : List PI2} (h : l.length ≤ 1200) (h1 : ∀ p ∈ l, b2 p) : RHalf ([.lst (l.map pairD)] ++ []) (.ok (.lst ((halfH l).map pairD))) := ⟨l, h, h1, rfl, rfl⟩
theorem itOf_pair {l : List PI2} {i : Nat} (h : i < l.length) : itOf (l.map pairD) i = pairD (l.getD i (0, 0)) := by
  unfold itOf
  rw [List.getD_eq_getElem?_getD, List.getD_eq_getElem?_getD, List.getElem?_map, List.getElem?_eq_getElem h]
  rfl
theorem pile_at {a b : PI2} {r : List PI2} : atI (((b :: a :: r).reverse).map pairD) ((((b :: a :: r).reverse.map pairD).length : Int) - 2) = some (pairD a) ∧ atI (((b :: a :: r).reverse).map pairD) ((((b :: a :: r).reverse.map pairD).length : Int) - 1) = some (pairD b) := by
  have e : ((b :: a :: r).reverse).map pairD = (r.reverse.map pairD) ++ [pairD a, pairD b] := by simp
  rw [e]
  have l : ((r.reverse.map pairD) ++ [pairD a, pairD b]).length = r.length + 2 := by simp
  constructor
  · have e1 : ((((r.reverse.map pairD) ++ [pairD a, pairD b]).length : Nat) : Int) - 2 = ((r.length : Nat) : Int) := by rw [l]; omega
    rw [e1]
    refine Fw.atI_nat ?_
    rw [List.getElem?_append_right (by simp)]
    simp
  · have e1 : ((((r.reverse.map pairD) ++ [pairD a, pairD b]).length : Nat) : Int) - 1 = ((r.length + 1 : Nat) : Int) := by rw [l]; omega
    rw [e1]
    refine Fw.atI_nat ?_
    rw [List.getElem?_append_right (by simp)]
    simp
section
variable {W : Wd} {S : Sg}
theorem ok_halfhull {f : Addr} {fd : FuncData} (F : Fd W.K "_law_half_hull" "_law_half_hull" s_law_half_hull [] f fd) (hK : W.K = S.K) (T : Mb W) (f_lturn : Fn W S 1 "_law_turn" 3 [] RTrn) :
    FnOk W.P W.w W.K W.mg W.base (L2N.CX W.P W.w) 2 f fd ["_law_spots"] (spOf S 1 RHalf) := by
  refine def_ok F hK s_law_half_hull_sc (fun ds o h => by obtain ⟨_, _, _, rfl, _⟩ := h; rfl) fun X U ds o b h => ?_
  obtain ⟨l, hl, hb, rfl, rfl⟩ := h
  have C := b.C
  obtain ⟨n__law_spots, l__law_spots⟩ := b.nm 0 "_law_spots" rfl (.inl rfl) (by decide) (by decide)
  obtain ⟨n__law_chain, l__law_chain⟩ := b.nm 1 "_law_chain" rfl (.inl rfl) (by decide) (by decide)
  obtain ⟨n__law_spot, l__law_spot⟩ := b.nm 2 "_law_spot" rfl (.inl rfl) (by decide) (by decide)
  have g_len := b.ng "len" rfl (by decide)
  have m_len := b.mg T.len
  have g__law_turn := b.ng "_law_turn" rfl (by decide)
  change XB _ _ _ [.v (.lst (l.map pairD)), .no, .no] _ _
  refine' s_cons (s_asgN C.toKb l__law_chain (n_lst a_nil) ?k0)
  dsimp only [List.set_cons_succ, List.set_cons_zero]
  refine s_mid (fun g => ∃ k : Sl, g = [.v (.lst (l.map pairD)), .own ((halfH l).map pairD), k]) ?_ ?_
  · refine' s_for C (i_list C.toKb (e_var n__law_spots rfl)) (fun i g => ∃ k : Sl, g = [.v (.lst (l.map pairD)), .own ((halfH (l.take i)).map pairD), k]) ⟨.no, rfl⟩ ?_ (fun g h => by
      obtain ⟨k, rfl⟩ := h
      exact ⟨k, by rw [List.length_map, List.take_length]⟩)
    rintro i g hi ⟨k, rfl⟩
    rw [List.length_map] at hi
    rw [itOf_pair hi]
    have hp : b2 (l.getD i (0, 0)) := hb _ (by rw [List.getD_eq_getElem?_getD, List.getElem?_eq_getElem hi]; exact List.getElem_mem hi)
    have ht : l.take (i + 1) = l.take i ++ [l.getD i (0, 0)] := by
      rw [List.take_succ, List.getD_eq_getElem?_getD, List.getElem?_eq_getElem hi]
      rfl
    generalize l.getD i (0, 0) = p at hp ht ⊢
    refine ⟨_, g_name C.toKb l__law_spot, ?_⟩
    dsimp only [List.set_cons_succ, List.set_cons_zero]
    have hlen : (halfR (l.take i)).length ≤ 1200 := Nat.le_trans (halfR_len _ _ rfl) (by rw [List.length_take]; omega)
    have hmem : ∀ q ∈ halfR (l.take i), b2 q := fun q hq => hb q (List.mem_of_mem_take (halfR_mem hq))
    have hfin : halfH (l.take (i + 1)) = (pushC (halfR (l.take i)) p).reverse := by
      unfold halfH
      rw [ht, halfR_snoc]
    rw [hfin]
    unfold halfH
    generalize halfR (l.take i) = st at hlen hmem ⊢
    refine s_mid (fun g => ∃ s : List PI2, s.length ≤ 1200 ∧ pushC st p = p :: s ∧ g = [.v (.lst (l.map pairD)), .own ((s.reverse).map pairD), .v (pairD p)]) ?_ ?_
    · refine s_while C.toKb (fun m g => ∃ s : List PI2, s.length ≤ 1200 ∧ (∀ q ∈ s, b2 q) ∧ pushC st p = pushC s p ∧ m = s.length ∧ g = [.v (.lst (l.map pairD)), .own ((s.reverse).map pairD), .v (pairD p)]) st.length ⟨st, hlen, hmem, rfl, rfl, rfl⟩ ?_
      rintro m g ⟨s, h1, h2, h3, rfl, rfl⟩
      have hls : ((s.reverse).map pairD).length = s.length := by simp
      refine' ⟨_, ?tx, ?y, ?n⟩
      case tx => walk_at "tx"
      case n =>
        intro hb'
        rw [hls] at hb'
        have : ¬ (1 : Int) < s.length := by simpa using hb'
        refine ⟨s, h1, ?_, rfl⟩
        rw [h3]
        match s, this with
        | [], _ => rfl
        | [_], _ => rfl
        | _ :: _ :: _, h => simp at h; omega
      case y =>
        intro hb'
        rw [hls] at hb'
        have : (1 : Int) < s.length := by simpa using hb'
        match s, this with
        | [], h => simp at h
        | [_], h => simp at h
        | c :: a :: r, _ =>
          have ha := h2 a (by simp)
          have hc := h2 c (by simp)
          obtain ⟨t1, t2⟩ := pile_at (a := a) (b := c) (r := r)
          by_cases ht : 0 < turnI a c p
          · walk_at "ifT"
            refine s_cons (s_break ⟨c :: a :: r, h1, ?_, rfl⟩)
            rw [h3]
            unfold pushC
            rw [if_pos ht]
          · walk_at "ifF"
            have er : ((c :: a :: r).reverse).map pairD = ((a :: r).reverse).map pairD ++ [pairD c] := by simp
            refine' s_cons (s_pop C.toKb n__law_chain (ds := ((a :: r).reverse).map pairD) (d := pairD c) (by rw [er]; rfl) ?k1)
            refine s_nil ⟨(a :: r).length, by simp, a :: r, by simp only [List.length_cons] at h1 ⊢; omega, fun q hq => h2 q (List.mem_cons_of_mem _ hq), ?_, rfl, rfl⟩
            rw [h3]
            show pushC (c :: a :: r) p = _
            rw [pushC, if_neg ht]
    · rintro g ⟨s, h1, h2, rfl⟩
      refine' s_cons (s_app C.toKb n__law_chain rfl ?x2 (by simp; omega) ?k2)
      case x2 => walk_at "ex"
      refine s_nil ⟨.v (pairD p), ?_⟩
      rw [h2]
      simp
  · rintro g ⟨k, rfl⟩
    exact s_cons (s_retOwn n__law_chain rfl rfl)
end
local macro_rules | `(tactic| walk_at "cl") => `(tactic| exact half_r (by assumption) (by assumption))

/-! ### geometry -/
/-- by rows, then by columns -/
def ylt (p q : PI2) : Prop := p.2 < q.2 ∨ (p.2 = q.2 ∧ p.1 < q.1)
theorem ylt_tr {p q r : PI2} (h : ylt p q) (k : ylt q r) : ylt p r := by unfold ylt at *; omega
theorem ylt_ir {p : PI2} : ¬ ylt p p := by unfold ylt; omega
/-- vectors of the upper half plane -/
def Up (x y : Int) : Prop := 0 < y ∨ (y = 0 ∧ 0 < x)
def crs (x1 y1 x2 y2 : Int) : Int := x1 * y2 - y1 * x2
theorem up_of {p q : PI2} (h : ylt p q) : Up (q.1 - p.1) (q.2 - p.2) := by unfold ylt at h; unfold Up; omega
theorem crs_mid {x1 y1 x2 y2 x3 y3 : Int} : crs x1 y1 x3 y3 * y2 = crs x2 y2 x3 y3 * y1 + crs x1 y1 x2 y2 * y3 := by unfold crs; grind
theorem Up.y0 {x y : Int} (h : Up x y) : 0 ≤ y := by unfold Up at h; omega
theorem crs_weak {x1 y1 x2 y2 x3 y3 : Int} (h1 : Up x1 y1) (h2 : Up x2 y2) (h3 : Up x3 y3) (k1 : 0 ≤ crs x1 y1 x2 y2) (k2 : 0 ≤ crs x2 y2 x3 y3) : 0 ≤ crs x1 y1 x3 y3 := by
  rcases h2 with z | ⟨z, zx⟩
  · have e := crs_mid (x1 := x1) (y1 := y1) (x2 := x2) (y2 := y2) (x3 := x3) (y3 := y3)
    have a1 := Int.mul_nonneg k2 h1.y0
    have a2 := Int.mul_nonneg k1 h3.y0
    rcases Int.lt_or_le (crs x1 y1 x3 y3) 0 with q | q
    · have := Int.mul_neg_of_neg_of_pos q z
      omega
    · exact q
  · subst z
    have e : crs x1 y1 x2 0 = -(y1 * x2) := by unfold crs; grind
    rw [e] at k1
    have y1z : y1 = 0 := by
      rcases Int.lt_or_le 0 y1 with q | q
      · have := Int.mul_pos q zx
        omega
      · have := h1.y0
        omega
    subst y1z
    have x1p : 0 < x1 := by unfold Up at h1; omega
    have e2 : crs x1 0 x3 y3 = x1 * y3 := by unfold crs; grind
    rw [e2]
    exact Int.mul_nonneg (by omega) h3.y0
theorem crs_strict {x1 y1 x2 y2 x3 y3 : Int} (h1 : Up x1 y1) (h2 : Up x2 y2) (h3 : Up x3 y3) (k1 : 0 < crs x1 y1 x2 y2) (k2 : 0 < crs x2 y2 x3 y3) : 0 < crs x1 y1 x3 y3 := by
  rcases h2 with z | ⟨z, zx⟩
  · have e := crs_mid (x1 := x1) (y1 := y1) (x2 := x2) (y2 := y2) (x3 := x3) (y3 := y3)
    rcases Int.lt_or_le 0 (crs x1 y1 x3 y3) with q | q
    · exact q
    · have w1 : crs x1 y1 x3 y3 * y2 ≤ 0 := Int.mul_nonpos_of_nonpos_of_nonneg q (by omega)
      have a1 := Int.mul_nonneg (show 0 ≤ crs x2 y2 x3 y3 by omega) h1.y0
      have a2 := Int.mul_nonneg (show 0 ≤ crs x1 y1 x2 y2 by omega) h3.y0
      have b1 : crs x2 y2 x3 y3 * y1 = 0 := by omega
      have b2 : crs x1 y1 x2 y2 * y3 = 0 := by omega
      have y1z : y1 = 0 := by rcases Int.mul_eq_zero.mp b1 with w | w <;> omega
      have y3z : y3 = 0 := by rcases Int.mul_eq_zero.mp b2 with w | w <;> omega
      subst y1z
      subst y3z
      have x3p : 0 < x3 := by unfold Up at h3; omega
      have e2 : crs x2 y2 x3 0 = -(y2 * x3) := by unfold crs; grind
      have := Int.mul_pos z x3p
      omega
  · subst z
    have e : crs x1 y1 x2 0 = -(y1 * x2) := by unfold crs; grind
    have := Int.mul_nonneg h1.y0 (show 0 ≤ x2 by omega)
    omega
theorem turn_crs {a b c : PI2} : turnI a b c = crs (b.1 - a.1) (b.2 - a.2) (c.1 - b.1) (c.2 - b.2) := by unfold turnI crs; grind
theorem turn_cyc {a b c : PI2} : turnI a b c = turnI b c a := by unfold turnI; grind
theorem turn_swap {a b c : PI2} : turnI a b c = -turnI b a c := by unfold turnI; grind
theorem crs_add {x1 y1 x2 y2 x3 y3 : Int} : crs x1 y1 (x2 + x3) (y2 + y3) = crs x1 y1 x2 y2 + crs x1 y1 x3 y3 := by unfold crs; grind
/-- four in a row -/
theorem turn_four {a b c d : PI2} (h1 : ylt a b) (h2 : ylt b c) (h3 : ylt c d) (k1 : 0 < turnI a b c) (k2 : 0 < turnI b c d) : 0 < turnI a b d ∧ 0 < turnI a c d := by
  rw [turn_crs] at k1 k2
  have s := crs_strict (up_of h1) (up_of h2) (up_of h3) k1 k2
  constructor
  · have e : turnI a b d = crs (b.1 - a.1) (b.2 - a.2) (c.1 - b.1) (c.2 - b.2) + crs (b.1 - a.1) (b.2 - a.2) (d.1 - c.1) (d.2 - c.2) := by unfold turnI crs; grind
    omega
  · have e : turnI a c d = crs (b.1 - a.1) (b.2 - a.2) (d.1 - c.1) (d.2 - c.2) + crs (c.1 - b.1) (c.2 - b.2) (d.1 - c.1) (d.2 - c.2) := by unfold turnI crs; grind
    omega
/-- q ahead of t, the edge (a, t) has q on its left, p turns left behind it: so q is left of (t, p) -/
theorem left_low {a t p q : PI2} (h1 : ylt a t) (h2 : ylt t p) (h3 : ylt q t) (k1 : 0 ≤ turnI a t q) (k2 : 0 < turnI a t p) : 0 ≤ turnI t p q := by
  have e1 : turnI a t q = crs (t.1 - q.1) (t.2 - q.2) (t.1 - a.1) (t.2 - a.2) := by unfold turnI crs; grind
  have e2 : turnI t p q = crs (t.1 - q.1) (t.2 - q.2) (p.1 - t.1) (p.2 - t.2) := by unfold turnI crs; grind
  rw [e1] at k1
  rw [turn_crs] at k2
  rw [e2]
  exact crs_weak (up_of h3) (up_of h1) (up_of h2) k1 (by omega)
/-- q behind t, the popped edge (t, b) has q on its left, p does not turn left behind it -/
theorem left_high {t b p q : PI2} (h1 : ylt t b) (h2 : ylt t p) (h3 : ylt t q) (k1 : 0 ≤ turnI t b q) (k2 : turnI t b p ≤ 0) : 0 ≤ turnI t p q := by
  have e1 : turnI t b q = crs (b.1 - t.1) (b.2 - t.2) (q.1 - t.1) (q.2 - t.2) := by unfold turnI crs; grind
  have e2 : turnI t b p = -crs (p.1 - t.1) (p.2 - t.2) (b.1 - t.1) (b.2 - t.2) := by unfold turnI crs; grind
  have e3 : turnI t p q = crs (p.1 - t.1) (p.2 - t.2) (q.1 - t.1) (q.2 - t.2) := by unfold turnI crs; grind
  rw [e3]
  exact crs_weak (up_of h2) (up_of h1) (up_of h3) (by omega) (by omega)
/-- a point of the line of an edge is not strictly left of the base -/
theorem on_edge {a b v l h : PI2} (h1 : ylt a b) (hl : l = a ∨ ylt l a) (hv : ylt l v) (vh : ylt v h) (fl : 0 ≤ turnI a b l) (fh : 0 ≤ turnI a b h) (fv : turnI a b v = 0) : turnI l h v ≤ 0 := by
  have i1 : turnI l h v * (b.2 - a.2) = turnI a b v * (h.2 - l.2) - turnI a b l * (h.2 - v.2) - turnI a b h * (v.2 - l.2) := by unfold turnI; grind
  have i2 : turnI l h v * (b.1 - a.1) = turnI a b v * (h.1 - l.1) - turnI a b l * (h.1 - v.1) - turnI a b h * (v.1 - l.1) := by unfold turnI; grind
  rw [fv, Int.zero_mul] at i1 i2
  rcases Int.lt_or_le 0 (turnI l h v) with z | z
  · exfalso
    have y1 : 0 ≤ h.2 - v.2 := by unfold ylt at vh; omega
    have y2 : 0 ≤ v.2 - l.2 := by unfold ylt at hv; omega
    have m1 := Int.mul_nonneg fl y1
    have m2 := Int.mul_nonneg fh y2
    rcases h1 with q | ⟨q, qx⟩
    · have := Int.mul_pos z (show 0 < b.2 - a.2 by omega)
      omega
    · have fe : ∀ p : PI2, turnI a b p = (b.1 - a.1) * (p.2 - a.2) := fun p => by unfold turnI; rw [q]; grind
      have ly : l.2 = a.2 := by
        rw [fe] at fl
        rcases Int.lt_or_le l.2 a.2 with w | w
        · have := Int.mul_neg_of_pos_of_neg (show 0 < b.1 - a.1 by omega) (show l.2 - a.2 < 0 by omega)
          omega
        · rcases hl with w2 | w2
          · rw [w2]
          · unfold ylt at w2; omega
      have f0 : turnI a b l = 0 := by rw [fe, ly, Int.sub_self, Int.mul_zero]
      have vy : v.2 = a.2 := by
        rw [fe] at fv
        rcases Int.mul_eq_zero.mp fv with w | w <;> omega
      have vx : 0 ≤ v.1 - l.1 := by unfold ylt at hv; omega
      have m3 := Int.mul_nonneg fh vx
      have := Int.mul_pos z (show 0 < b.1 - a.1 by omega)
      rw [f0, Int.zero_mul] at i2
      omega
  · exact z

/-! ### the pile -/
def Conv : List PI2 → Prop
  | c :: b :: a :: r => 0 < turnI a b c ∧ Conv (b :: a :: r)
  | _ => True
def Edg (Q : PI2 → Prop) : List PI2 → Prop
  | b :: a :: r => (∀ q, Q q → 0 ≤ turnI a b q) ∧ Edg Q (a :: r)
  | _ => True
abbrev Dec (s : List PI2) : Prop := s.Pairwise fun b a => ylt a b
theorem turn_same {a b : PI2} : turnI a b b = 0 ∧ turnI a b a = 0 := by
  constructor
  · unfold turnI; grind
  · unfold turnI; grind
theorem conv_edges {p : PI2} : ∀ {b : PI2} {s : List PI2}, Dec (p :: b :: s) → Conv (p :: b :: s) → Edg (fun q => q = p) (b :: s)
  | b, [], _, _ => trivial
  | b, a :: r, hd, hc => by
    obtain ⟨k1, k2⟩ := hc
    refine ⟨fun q e => by rw [e]; omega, ?_⟩
    obtain ⟨d1, d2⟩ := List.pairwise_cons.mp hd
    obtain ⟨d3, d4⟩ := List.pairwise_cons.mp d2
    refine conv_edges (List.pairwise_cons.mpr ⟨fun x hx => d1 x (List.mem_cons_of_mem _ hx), d4⟩) ?_
    cases r with
    | nil => trivial
    | cons a2 r =>
      obtain ⟨k3, k4⟩ := k2
      obtain ⟨d5, _⟩ := List.pairwise_cons.mp d4
      exact ⟨(turn_four (d5 a2 List.mem_cons_self) (d3 a List.mem_cons_self) (d1 b List.mem_cons_self) k3 k1).1, k4⟩
theorem Edg.and {Q R : PI2 → Prop} : ∀ {s : List PI2}, Edg Q s → Edg R s → Edg (fun q => Q q ∨ R q) s
  | [], _, _ => trivial
  | [_], _, _ => trivial
  | _ :: _ :: _, ⟨h1, h2⟩, ⟨k1, k2⟩ => ⟨fun q z => z.elim (h1 q) (k1 q), Edg.and h2 k2⟩
structure Pile (Q : PI2 → Prop) (s : List PI2) : Prop where
  dec : Dec s
  conv : Conv s
  edg : Edg Q s
  sub : ∀ x ∈ s, Q x
  bot : ∀ x, s.getLast? = some x → ∀ q, Q q → q = x ∨ ylt x q
theorem Pile.tail {Q : PI2 → Prop} {b a : PI2} {r : List PI2} (h : Pile Q (b :: a :: r)) : Pile Q (a :: r) where
  dec := (List.pairwise_cons.mp h.dec).2
  conv := by
    have := h.conv
    cases r with
    | nil => trivial
    | cons _ _ => exact this.2
  edg := h.edg.2
  sub := fun x hx => h.sub x (List.mem_cons_of_mem _ hx)
  bot := fun x hx => h.bot x (by rw [List.getLast?_cons_cons]; exact hx)
/-- what is known of the points behind the top -/
def Info (Q : PI2 → Prop) (t p : PI2) : Prop := (∀ q, Q q → ¬ ylt t q) ∨ ∃ b, ylt t b ∧ (∀ q, Q q → 0 ≤ turnI t b q) ∧ turnI t b p ≤ 0
theorem ylt_tot {p q : PI2} (h : ¬ ylt p q) (k : p ≠ q) : ylt q p := by
  unfold ylt at *
  rcases Int.lt_trichotomy p.2 q.2 with z | z | z
  · exact absurd (.inl z) h
  · rcases Int.lt_trichotomy p.1 q.1 with w | w | w
    · exact absurd (.inr ⟨z, w⟩) h
    · exact absurd (Prod.ext w z) k
    · exact .inr ⟨z.symm, w⟩
  · exact .inl z
theorem push_pile {Q : PI2 → Prop} {p : PI2} (hp : ∀ q, Q q → ylt q p) : ∀ (n : Nat) (t : PI2) (s : List PI2), s.length ≤ n → Pile Q (t :: s) → Info Q t p → Pile (fun q => Q q ∨ q = p) (pushC (t :: s) p) ∧ (pushC (t :: s) p).head? = some p ∧ (pushC (t :: s) p).getLast? = (t :: s).getLast?
  | n, t, [], _, h, inf => by
    have ht := hp t (h.sub t List.mem_cons_self)
    have e : pushC [t] p = [p, t] := rfl
    rw [e]
    refine ⟨⟨List.pairwise_cons.mpr ⟨fun x hx => by rw [List.mem_singleton.mp hx]; exact ht, List.pairwise_singleton _ _⟩, trivial, ⟨fun q hq => ?_, trivial⟩, fun x hx => ?_, fun x hx q hq => ?_⟩, rfl, rfl⟩
    · rcases hq with hq | hq
      · rcases h.bot t rfl q hq with z | z
        · rw [z]; exact Int.le_of_eq turn_same.2.symm
        · rcases inf with i | ⟨b, b1, b2, b3⟩
          · exact absurd z (i q hq)
          · exact left_high b1 ht z (b2 q hq) b3
      · rw [hq]; exact Int.le_of_eq turn_same.1.symm
    · rcases List.mem_cons.mp hx with z | z
      · exact .inr z
      · exact .inl (h.sub x z)
    · have e2 : t = x := by simpa using hx
      subst e2
      rcases hq with hq | hq
      · exact h.bot t rfl q hq
      · rw [hq]; exact .inr ht
  | n, t, a :: r, hn, h, inf => by
    have ht := hp t (h.sub t List.mem_cons_self)
    have hat : ylt a t := (List.pairwise_cons.mp h.dec).1 a List.mem_cons_self
    by_cases k : turnI a t p > 0
    · have e : pushC (t :: a :: r) p = p :: t :: a :: r := by rw [pushC, if_pos k]
      rw [e]
      have dp : Dec (p :: t :: a :: r) := List.pairwise_cons.mpr ⟨fun x hx => hp x (h.sub x hx), h.dec⟩
      have cp : Conv (p :: t :: a :: r) := ⟨k, h.conv⟩
      refine ⟨⟨dp, cp, ⟨fun q hq => ?_, h.edg.and (conv_edges dp cp)⟩, fun x hx => ?_, fun x hx q hq => ?_⟩, rfl, by rw [List.getLast?_cons_cons]⟩
      · rcases hq with hq | hq
        · by_cases e1 : q = t
          · rw [e1]; exact Int.le_of_eq turn_same.2.symm
          · by_cases e2 : ylt t q
            · rcases inf with i | ⟨b, b1, b2, b3⟩
              · exact absurd e2 (i q hq)
              · exact left_high b1 ht e2 (b2 q hq) b3
            · exact left_low hat ht (ylt_tot e2 (Ne.symm e1)) (h.edg.1 q hq) k
        · rw [hq]; exact Int.le_of_eq turn_same.1.symm
      · rcases List.mem_cons.mp hx with z | z
        · exact .inr z
        · exact .inl (h.sub x z)
      · rw [List.getLast?_cons_cons] at hx
        rcases hq with hq | hq
        · exact h.bot x hx q hq
        · rw [hq]
          exact .inr (hp x (h.sub x (List.mem_of_getLast? hx)))
    · have e : pushC (t :: a :: r) p = pushC (a :: r) p := by rw [pushC, if_neg k]
      rw [e, List.getLast?_cons_cons]
      cases n with
      | zero => simp at hn
      | succ n => exact push_pile hp n a r (by simpa using hn) h.tail (.inr ⟨t, hat, h.edg.1, by omega⟩)

/-! ### the chain of an increasing list -/
theorem conv_low : ∀ {s : List PI2} {p b : PI2}, Dec (p :: b :: s) → Conv (p :: b :: s) → ∀ x ∈ s, 0 < turnI x b p
  | [], _, _, _, _, x, h => nomatch h
  | a :: r, p, b, hd, hc, x, hx => by
    obtain ⟨k1, k2⟩ := hc
    obtain ⟨d1, d2⟩ := List.pairwise_cons.mp hd
    obtain ⟨d3, d4⟩ := List.pairwise_cons.mp d2
    rcases List.mem_cons.mp hx with z | z
    · rw [z]; exact k1
    · have ih := conv_low (s := r) (p := b) (b := a) d2 k2 x z
      exact (turn_four ((List.pairwise_cons.mp d4).1 x z) (d3 a List.mem_cons_self) (d1 b List.mem_cons_self) ih k1).2
/-- each edge has all other corners of its chain strictly on its left -/
def EdgS (C : List PI2) : List PI2 → Prop
  | b :: a :: r => (∀ x ∈ C, x = a ∨ x = b ∨ 0 < turnI a b x) ∧ EdgS C (a :: r)
  | _ => True
theorem EdgS.more {C : List PI2} {p : PI2} : ∀ {s : List PI2}, EdgS C s → Edg (fun q => q = p) s → (∀ (b a : PI2) (r : List PI2), True) → (Conv (p :: s)) → Dec (p :: s) → EdgS (p :: C) s
  | [], _, _, _, _, _ => trivial
  | [_], _, _, _, _, _ => trivial
  | b :: a :: r, ⟨h1, h2⟩, ⟨k1, k2⟩, w, c, d => by
    have strict : ∀ {p b : PI2} {s : List PI2}, Dec (p :: b :: s) → Conv (p :: b :: s) → ∀ (x y : PI2) (u v : List PI2), b :: s = u ++ x :: y :: v → 0 < turnI y x p := by
      intro p b s
      induction s generalizing b p with
      | nil =>
        intro _ _ x y u v e
        cases u with
        | nil => cases e
        | cons u0 u => simp at e
      | cons a s ih =>
        intro hd hc x y u v e
        obtain ⟨m1, m2⟩ := hc
        cases u with
        | nil =>
          simp only [List.nil_append, List.cons.injEq] at e
          obtain ⟨rfl, rfl, rfl⟩ := e
          exact m1
        | cons u0 u =>
          simp only [List.cons_append, List.cons.injEq] at e
          obtain ⟨rfl, e⟩ := e
          obtain ⟨d1, d2⟩ := List.pairwise_cons.mp hd
          obtain ⟨d3, d4⟩ := List.pairwise_cons.mp d2
          refine ih (List.pairwise_cons.mpr ⟨fun z hz => d1 z (List.mem_cons_of_mem _ hz), d4⟩) ?_ x y u v e
          cases s with
          | nil => trivial
          | cons a2 s =>
            obtain ⟨m3, m4⟩ := m2
            exact ⟨(turn_four ((List.pairwise_cons.mp d4).1 a2 List.mem_cons_self) (d3 a List.mem_cons_self) (d1 _ List.mem_cons_self) m3 m1).1, m4⟩
    have all : ∀ (s : List PI2), (∃ u, b :: a :: r = u ++ s) → EdgS C s → EdgS (p :: C) s := by
      intro s
      induction s with
      | nil => exact fun _ _ => trivial
      | cons x s ih =>
        intro ⟨u, eu⟩ hs
        cases s with
        | nil => trivial
        | cons y s =>
          refine ⟨fun z hz => ?_, ih ⟨u ++ [x], by rw [eu]; simp⟩ hs.2⟩
          rcases List.mem_cons.mp hz with q | q
          · rw [q]
            exact .inr (.inr (strict d c x y u s eu))
          · exact hs.1 z q
    exact all _ ⟨[], rfl⟩ ⟨h1, h2⟩
theorem conv_strict : ∀ {s : List PI2}, Dec s → Conv s → EdgS s s
  | [], _, _ => trivial
  | [_], _, _ => trivial
  | p :: b :: r, hd, hc => by
    have d2 := (List.pairwise_cons.mp hd).2
    have c2 : Conv (b :: r) := by
      cases r with
      | nil => trivial
      | cons _ _ => exact hc.2
    have ih := conv_strict d2 c2
    refine ⟨fun x hx => ?_, ih.more (conv_edges hd hc) (fun _ _ _ => trivial) hc hd⟩
    rcases List.mem_cons.mp hx with z | z
    · exact .inr (.inl z)
    · rcases List.mem_cons.mp z with z | z
      · exact .inl z
      · refine .inr (.inr ?_)
        rw [← turn_cyc (a := x) (b := b) (c := p)]
        exact conv_low hd hc x z
theorem half_pile : ∀ (n : Nat) (l : List PI2), l.length = n → l ≠ [] → l.Pairwise ylt → Pile (fun q => q ∈ l) (halfR l) ∧ (halfR l).head? = l.getLast? ∧ (halfR l).getLast? = l.head?
  | 0, l, h, hne, _ => absurd (List.eq_nil_of_length_eq_zero h) hne
  | n + 1, l, h, hne, hs => by
    obtain ⟨m, p, e⟩ : ∃ m p, l = m ++ [p] := ⟨l.dropLast, l.getLast hne, (List.dropLast_concat_getLast hne).symm⟩
    subst e
    obtain ⟨s1, _, s3⟩ := List.pairwise_append.mp hs
    by_cases hm : m = []
    · subst hm
      refine ⟨⟨List.pairwise_singleton _ _, trivial, trivial, fun x hx => hx, fun x hx q hq => ?_⟩, rfl, rfl⟩
      have e1 : p = x := by simpa [halfR, pushC] using hx
      have e2 : q = p := by simpa using hq
      exact .inl (e2.trans e1)
    · have ih := half_pile n m (by rw [List.length_append] at h; simpa using h) hm s1
      rw [halfR_snoc]
      obtain ⟨P, hh, hl⟩ := ih
      cases hr : halfR m with
      | nil =>
        rw [hr] at hl
        cases m with
        | nil => exact absurd rfl hm
        | cons _ _ => cases hl
      | cons t s =>
        rw [hr] at P hh hl
        have inf : Info (fun q => q ∈ m) t p := .inl fun q hq => by
          have ht : m.getLast? = some t := hh.symm
          obtain ⟨u, eu⟩ : ∃ u, m = u ++ [t] := by
            have hm2 : m.getLast hm = t := by
              rw [List.getLast?_eq_some_getLast hm] at ht
              exact Option.some.inj ht
            exact ⟨m.dropLast, by rw [← hm2]; exact (List.dropLast_concat_getLast hm).symm⟩
          rw [eu] at hq s1
          rcases List.mem_append.mp hq with z | z
          · have := (List.pairwise_append.mp s1).2.2 q z t (by simp)
            exact fun w => ylt_ir (ylt_tr this w)
          · rw [List.mem_singleton.mp z]
            exact ylt_ir
        obtain ⟨P2, h1, h2⟩ := push_pile (p := p) (fun q hq => s3 q hq p (by simp)) s.length t s (Nat.le_refl _) P inf
        refine ⟨⟨P2.dec, P2.conv, ?_, fun x hx => ?_, fun x hx q hq => P2.bot x hx q ?_⟩, ?_, ?_⟩
        · have conv : ∀ {s : List PI2} {Q R : PI2 → Prop}, (∀ q, R q → Q q) → Edg Q s → Edg R s := by
            intro s Q R hQ
            induction s with
            | nil => exact fun _ => trivial
            | cons a s ih =>
              intro he
              cases s with
              | nil => trivial
              | cons b s => exact ⟨fun q hq => he.1 q (hQ q hq), ih he.2⟩
          exact conv (fun q hq => (List.mem_append.mp hq).imp id fun z => List.mem_singleton.mp z) P2.edg
        · exact List.mem_append.mpr ((P2.sub x hx).imp id fun z => List.mem_singleton.mpr z)
        · exact (List.mem_append.mp hq).imp id fun z => List.mem_singleton.mp z
        · rw [h1]; simp
        · rw [h2, hl]
          cases m with
          | nil => exact absurd rfl hm
          | cons _ _ => rfl

/-! ### the other chain, by reflection -/
def ng (p : PI2) : PI2 := (-p.1, -p.2)
theorem ng_ng {p : PI2} : ng (ng p) = p := by
  unfold ng
  exact Prod.ext (by simp) (by simp)
theorem turn_ng {a b c : PI2} : turnI (ng a) (ng b) (ng c) = turnI a b c := by unfold turnI ng; grind
theorem ylt_ng {a b : PI2} : ylt (ng a) (ng b) ↔ ylt b a := by unfold ylt ng; constructor <;> intro h <;> omega
theorem push_ng {p : PI2} : ∀ s : List PI2, pushC (s.map ng) (ng p) = (pushC s p).map ng
  | [] => rfl
  | [a] => rfl
  | b :: a :: r => by
    have ih := push_ng (p := p) (a :: r)
    show pushC (ng b :: ng a :: r.map ng) (ng p) = _
    by_cases k : turnI a b p > 0
    · rw [pushC, pushC, turn_ng, if_pos k, if_pos k]
      rfl
    · rw [pushC, pushC, turn_ng, if_neg k, if_neg k]
      exact ih
theorem halfR_ng (l : List PI2) : halfR (l.map ng) = (halfR l).map ng := by
  have key : ∀ (l s : List PI2), (l.map ng).foldl pushC (s.map ng) = (l.foldl pushC s).map ng := fun l => by
    induction l with
    | nil => intro s; rfl
    | cons p l ih =>
      intro s
      show (l.map ng).foldl pushC (pushC (s.map ng) (ng p)) = _
      rw [push_ng, ih]
      rfl
  exact key l []
theorem map_ng_ng (l : List PI2) : (l.map ng).map ng = l := by
  rw [List.map_map]
  have : (ng ∘ ng) = id := by funext p; exact ng_ng
  rw [this, List.map_id]
/-- all triples of a chain turn left -/
theorem tri_all : ∀ (s : List PI2) (x : PI2), Dec (x :: s) → Conv (x :: s) → ∀ (u v : List PI2) (y : PI2), s = u ++ y :: v → ∀ z ∈ v, 0 < turnI z y x
  | [], x, _, _, u, v, y, e, z, _ => by cases u <;> simp at e
  | b :: s, x, hd, hc, u, v, y, e, z, hz => by
    cases u with
    | nil =>
      simp only [List.nil_append, List.cons.injEq] at e
      obtain ⟨rfl, rfl⟩ := e
      exact conv_low hd hc z hz
    | cons u0 u =>
      simp only [List.cons_append, List.cons.injEq] at e
      obtain ⟨rfl, e⟩ := e
      obtain ⟨d1, d2⟩ := List.pairwise_cons.mp hd
      obtain ⟨d3, d4⟩ := List.pairwise_cons.mp d2
      refine tri_all s x (List.pairwise_cons.mpr ⟨fun w hw => d1 w (List.mem_cons_of_mem _ hw), d4⟩) ?_ u v y e z hz
      cases s with
      | nil => trivial
      | cons a s =>
        obtain ⟨k1, k2⟩ := hc
        cases s with
        | nil => trivial
        | cons a2 s =>
          obtain ⟨k3, k4⟩ := k2
          exact ⟨(turn_four ((List.pairwise_cons.mp d4).1 a2 List.mem_cons_self) (d3 a List.mem_cons_self) (d1 _ List.mem_cons_self) k3 k1).1, k4⟩
/-- neighbours in a list -/
def Nb (L : List PI2) (a b : PI2) : Prop := ∃ u v, L = u ++ a :: b :: v
theorem edg_nb {Q : PI2 → Prop} {a b q : PI2} (hq : Q q) : ∀ {s : List PI2}, Edg Q s → Nb s b a → 0 ≤ turnI a b q
  | [], _, ⟨u, v, e⟩ => by cases u <;> simp at e
  | [x], _, ⟨u, v, e⟩ => by
    cases u with
    | nil => simp at e
    | cons _ u => cases u <;> simp at e
  | x :: y :: r, ⟨h1, h2⟩, ⟨u, v, e⟩ => by
    cases u with
    | nil =>
      simp only [List.nil_append, List.cons.injEq] at e
      obtain ⟨rfl, rfl, _⟩ := e
      exact h1 q hq
    | cons _ u =>
      simp only [List.cons_append, List.cons.injEq] at e
      exact edg_nb hq h2 ⟨u, v, e.2⟩
theorem edgS_nb {C : List PI2} {a b x : PI2} (hx : x ∈ C) : ∀ {s : List PI2}, EdgS C s → Nb s b a → x = a ∨ x = b ∨ 0 < turnI a b x
  | [], _, ⟨u, v, e⟩ => by cases u <;> simp at e
  | [z], _, ⟨u, v, e⟩ => by
    cases u with
    | nil => simp at e
    | cons _ u => cases u <;> simp at e
  | z :: y :: r, ⟨h1, h2⟩, ⟨u, v, e⟩ => by
    cases u with
    | nil =>
      simp only [List.nil_append, List.cons.injEq] at e
      obtain ⟨rfl, rfl, _⟩ := e
      exact h1 x hx
    | cons _ u =>
      simp only [List.cons_append, List.cons.injEq] at e
      exact edgS_nb hx h2 ⟨u, v, e.2⟩
theorem nb_rev {L : List PI2} {a b : PI2} (h : Nb L.reverse a b) : Nb L b a := by
  obtain ⟨u, v, e⟩ := h
  have := congrArg List.reverse e
  rw [List.reverse_reverse] at this
  exact ⟨v.reverse, u.reverse, by rw [this]; simp⟩
theorem nb_map {L : List PI2} {a b : PI2} (h : Nb (L.map ng) a b) : Nb L (ng a) (ng b) := by
  obtain ⟨u, v, e⟩ := h
  have := congrArg (List.map ng) e
  rw [map_ng_ng] at this
  exact ⟨u.map ng, v.map ng, by rw [this]; simp⟩
/-- neighbours of a list put together at one member -/
theorem nb_join {p a b : PI2} : ∀ {L M : List PI2}, Nb (L ++ p :: M) a b → Nb (L ++ [p]) a b ∨ Nb (p :: M) a b
  | [], M, h => .inr h
  | x :: L, M, ⟨u, v, e⟩ => by
    cases u with
    | nil =>
      cases L with
      | nil =>
        simp only [List.cons_append, List.nil_append, List.cons.injEq] at e
        obtain ⟨rfl, rfl, rfl⟩ := e
        exact .inl ⟨[], [], rfl⟩
      | cons y L =>
        simp only [List.cons_append, List.nil_append, List.cons.injEq] at e
        obtain ⟨rfl, rfl, rfl⟩ := e
        exact .inl ⟨[], L ++ [p], rfl⟩
    | cons u0 u =>
      simp only [List.cons_append, List.cons.injEq] at e
      obtain ⟨rfl, e⟩ := e
      rcases nb_join (L := L) (M := M) ⟨u, v, e⟩ with ⟨u', v', e'⟩ | h
      · exact .inl ⟨x :: u', v', by rw [List.cons_append, e']; rfl⟩
      · exact .inr h

/-! ### both chains together -/
abbrev Inc (l : List PI2) : Prop := l.Pairwise ylt
def back (l : List PI2) : List PI2 := l.reverse.map ng
theorem back_inc {l : List PI2} (h : Inc l) : Inc (back l) := by
  unfold back
  refine List.pairwise_map.mpr (List.pairwise_reverse.mpr ?_)
  exact h.imp fun {a b} k => ylt_ng.mpr k
theorem back_back (l : List PI2) : back (back l) = l := by
  unfold back
  rw [← List.map_reverse, List.reverse_reverse, map_ng_ng]
theorem half_back (l : List PI2) : halfH (back l) = (halfH l.reverse).map ng := by
  unfold halfH back
  rw [halfR_ng, List.map_reverse]
theorem back_mem {l : List PI2} {q : PI2} : ng q ∈ back l ↔ q ∈ l := by
  unfold back
  rw [List.mem_map]
  constructor
  · rintro ⟨p, hp, e⟩
    have : p = q := by rw [← ng_ng (p := p), e, ng_ng]
    rw [← this]
    exact List.mem_reverse.mp hp
  · intro h
    exact ⟨q, List.mem_reverse.mpr h, rfl⟩
theorem half_of {l : List PI2} (hs : Inc l) (hne : l ≠ []) : Pile (fun q => q ∈ l) (halfR l) ∧ (halfR l).head? = l.getLast? ∧ (halfR l).getLast? = l.head? := half_pile l.length l rfl hne hs
theorem half_mem {l : List PI2} {x : PI2} : x ∈ halfH l ↔ x ∈ halfR l := by unfold halfH; exact List.mem_reverse
theorem nb_half {l : List PI2} {a b : PI2} (h : Nb (halfH l) a b) : Nb (halfR l) b a := nb_rev h
/-- the least and the greatest point -/
theorem ends {l : List PI2} (hs : Inc l) {p0 pn : PI2} (h0 : l.head? = some p0) (hn : l.getLast? = some pn) : ∀ q ∈ l, (q = p0 ∨ ylt p0 q) ∧ (q = pn ∨ ylt q pn) := by
  have hne : l ≠ [] := fun z => by rw [z] at h0; cases h0
  intro q hq
  obtain ⟨P, _, h2⟩ := half_of hs hne
  refine ⟨P.bot p0 (by rw [h2, h0]) q hq, ?_⟩
  have hne' : back l ≠ [] := fun z => by
    have := congrArg List.length z
    unfold back at this
    simp at this
    exact hne this
  obtain ⟨P', _, h2'⟩ := half_of (back_inc hs) hne'
  have hb : (back l).head? = some (ng pn) := by
    unfold back
    rw [List.head?_map, List.head?_reverse, hn]
    rfl
  rcases P'.bot (ng pn) (by rw [h2', hb]) (ng q) (back_mem.mpr hq) with z | z
  · exact .inl (by rw [← ng_ng (p := q), z, ng_ng])
  · exact .inr (ylt_ng.mp z)
theorem left_of {l : List PI2} (hs : Inc l) {a b : PI2} (h : Nb (halfH l) a b) : ∀ q ∈ l, 0 ≤ turnI a b q := by
  have hne : l ≠ [] := fun z => by
    subst z
    obtain ⟨u, v, e⟩ := h
    cases u <;> simp [halfH, halfR] at e
  exact fun q hq => edg_nb hq (half_of hs hne).1.edg (nb_half h)
theorem nb_dec {a b : PI2} : ∀ {s : List PI2}, Dec s → Nb s b a → ylt a b
  | s, hd, ⟨u, v, e⟩ => by
    rw [e] at hd
    exact (List.pairwise_cons.mp (List.pairwise_append.mp hd).2.1).1 a List.mem_cons_self
theorem nb_mem {s : List PI2} {a b : PI2} (h : Nb s b a) : b ∈ s ∧ a ∈ s := by
  obtain ⟨u, v, e⟩ := h
  rw [e]
  simp
/-- inside the other chain: strictly left of the base -/
theorem other_side {l : List PI2} (hs : Inc l) {p0 pn x : PI2} (h0 : l.head? = some p0) (hn : l.getLast? = some pn) (hx : x ∈ halfH l.reverse) (x0 : x ≠ p0) (xn : x ≠ pn) : 0 < turnI p0 pn x := by
  have hne : l ≠ [] := fun z => by rw [z] at h0; cases h0
  have hne' : back l ≠ [] := fun z => by
    have := congrArg List.length z
    unfold back at this
    simp at this
    exact hne this
  obtain ⟨P', h1', h2'⟩ := half_of (back_inc hs) hne'
  have hx' : ng x ∈ halfR (back l) := by
    rw [← half_mem, half_back]
    exact List.mem_map.mpr ⟨x, hx, rfl⟩
  have e1 : (back l).getLast? = some (ng p0) := by
    unfold back
    rw [List.getLast?_map, List.getLast?_reverse, h0]
    rfl
  have e2 : (back l).head? = some (ng pn) := by
    unfold back
    rw [List.head?_map, List.head?_reverse, hn]
    rfl
  rw [e1] at h1'
  rw [e2] at h2'
  have inj : ∀ {p q : PI2}, ng p = ng q → p = q := fun {p q} e => by rw [← ng_ng (p := p), e, ng_ng]
  cases hr : halfR (back l) with
  | nil => rw [hr] at h1'; cases h1'
  | cons t s =>
    rw [hr] at P' h1' h2' hx'
    have et : t = ng p0 := by simpa using h1'
    rcases List.mem_cons.mp hx' with z | z
    · exact absurd (inj (z.trans et)) x0
    · obtain ⟨u, v, e⟩ := List.append_of_mem z
      have hv : ng pn ∈ v := by
        rw [e] at h2'
        have h3 : (t :: (u ++ ng x :: v)).getLast? = (ng x :: v).getLast? := by
          rw [show t :: (u ++ ng x :: v) = (t :: u) ++ (ng x :: v) from rfl, List.getLast?_append]
          cases e9 : (ng x :: v).getLast? with
          | none => exact absurd (List.getLast?_eq_none_iff.mp e9) (fun z => nomatch z)
          | some w => rfl
        rw [h3] at h2'
        cases v with
        | nil =>
          have : ng x = ng pn := by simpa using h2'
          exact absurd (inj this) xn
        | cons y v =>
          rw [List.getLast?_cons_cons] at h2'
          exact List.mem_of_getLast? h2'
      have := tri_all s t P'.dec P'.conv u v (ng x) e (ng pn) hv
      rw [et, turn_ng] at this
      rw [turn_cyc, turn_cyc] at this
      exact this
/-- an edge of the chain has every other corner of both chains strictly on its left -/
theorem strict_of {l : List PI2} (hs : Inc l) {a b x : PI2} (h : Nb (halfH l) a b) (hx : x ∈ halfH l ∨ (x ∈ halfH l.reverse ∧ x ∈ l)) : x = a ∨ x = b ∨ 0 < turnI a b x := by
  have hne : l ≠ [] := fun z => by
    subst z
    obtain ⟨u, v, e⟩ := h
    cases u <;> simp [halfH, halfR] at e
  obtain ⟨P, h1, h2⟩ := half_of hs hne
  have nb := nb_half h
  by_cases hU : x ∈ halfR l
  · exact edgS_nb hU (conv_strict P.dec P.conv) nb
  · have hD : x ∈ halfH l.reverse ∧ x ∈ l := hx.elim (fun z => absurd (half_mem.mp z) hU) id
    cases e0 : l.head? with
    | none => cases l with
      | nil => exact absurd rfl hne
      | cons _ _ => cases e0
    | some p0 =>
      cases en : l.getLast? with
      | none => exact absurd (List.getLast?_eq_none_iff.mp en) hne
      | some pn =>
        have m0 : p0 ∈ halfR l := List.mem_of_getLast? (h2.trans e0)
        have mn : pn ∈ halfR l := List.mem_of_mem_head? (by rw [h1, en]; rfl)
        have x0 : x ≠ p0 := fun z => hU (z ▸ m0)
        have xn : x ≠ pn := fun z => hU (z ▸ mn)
        have os := other_side hs e0 en hD.1 x0 xn
        have E := ends hs e0 en
        have f0 := left_of hs h x hD.2
        obtain ⟨mb, ma⟩ := nb_mem nb
        have ha := P.sub a ma
        rcases Int.lt_or_le 0 (turnI a b x) with q | q
        · exact .inr (.inr q)
        · have fz : turnI a b x = 0 := by omega
          have p0l : p0 ∈ l := P.sub p0 m0
          have pnl : pn ∈ l := P.sub pn mn
          have := on_edge (nb_dec P.dec nb) ((E a ha).1.imp (fun z => z.symm) id) (((E x hD.2).1).resolve_left x0) (((E x hD.2).2).resolve_left xn) (left_of hs h p0 p0l) (left_of hs h pn pnl) fz
          omega

/-! ### the polygon -/
def hullS (l : List PI2) : List PI2 := if l.length = 1 then l else (halfH l).dropLast ++ (halfH l.reverse).dropLast
/-- C is a strictly convex polygon about l, from its least point p0 on -/
structure Poly (l C : List PI2) (p0 : PI2) : Prop where
  head : C.head? = some p0
  sub : ∀ x ∈ C, x ∈ l
  low : ∀ x ∈ l, x = p0 ∨ ylt p0 x
  left : ∀ a b, Nb (C ++ [p0]) a b → ∀ q ∈ l, 0 ≤ turnI a b q
  strict : ∀ a b, Nb (C ++ [p0]) a b → ∀ x ∈ C, x = a ∨ x = b ∨ 0 < turnI a b x
theorem ng_inj {p q : PI2} (e : ng p = ng q) : p = q := by rw [← ng_ng (p := p), e, ng_ng]
theorem half_ends {l : List PI2} (hs : Inc l) (hne : l ≠ []) : (halfH l).head? = l.head? ∧ (halfH l).getLast? = l.getLast? := by
  obtain ⟨_, h1, h2⟩ := half_of hs hne
  unfold halfH
  exact ⟨by rw [List.head?_reverse, h2], by rw [List.getLast?_reverse, h1]⟩
theorem half_ends2 {l : List PI2} (hs : Inc l) (hne : l ≠ []) {p0 pn : PI2} (h0 : l.head? = some p0) (hn : l.getLast? = some pn) : (halfH l.reverse).head? = some pn ∧ (halfH l.reverse).getLast? = some p0 := by
  have hne' : back l ≠ [] := fun z => by
    have := congrArg List.length z
    unfold back at this
    simp at this
    exact hne this
  obtain ⟨h1, h2⟩ := half_ends (back_inc hs) hne'
  have e : halfH l.reverse = (halfH (back l)).map ng := by rw [half_back, map_ng_ng]
  have b1 : (back l).head? = some (ng pn) := by
    unfold back
    rw [List.head?_map, List.head?_reverse, hn]
    rfl
  have b2 : (back l).getLast? = some (ng p0) := by
    unfold back
    rw [List.getLast?_map, List.getLast?_reverse, h0]
    rfl
  rw [e, List.head?_map, List.getLast?_map, h1, h2, b1, b2]
  exact ⟨congrArg some ng_ng, congrArg some ng_ng⟩
theorem last_split {L : List PI2} {p : PI2} (h : L.getLast? = some p) : L = L.dropLast ++ [p] := by
  have hne : L ≠ [] := fun z => by rw [z] at h; cases h
  rw [List.getLast?_eq_some_getLast hne] at h
  rw [← Option.some.inj h]
  exact (List.dropLast_concat_getLast hne).symm
theorem nb_ng {L : List PI2} {a b : PI2} (h : Nb L a b) : Nb (L.map ng) (ng a) (ng b) := by
  obtain ⟨u, v, e⟩ := h
  exact ⟨u.map ng, v.map ng, by rw [e]; simp⟩
theorem hull_poly {l : List PI2} (hs : Inc l) {p0 : PI2} (h0 : l.head? = some p0) (h2 : 2 ≤ l.length) : Poly l (hullS l) p0 := by
  have hne : l ≠ [] := fun z => by rw [z] at h0; cases h0
  cases en : l.getLast? with
  | none => exact absurd (List.getLast?_eq_none_iff.mp en) hne
  | some pn =>
    have e : hullS l = (halfH l).dropLast ++ (halfH l.reverse).dropLast := by
      unfold hullS
      rw [if_neg (by omega)]
    obtain ⟨u1, u2⟩ := half_ends hs hne
    obtain ⟨d1, d2⟩ := half_ends2 hs hne h0 en
    rw [h0] at u1
    rw [en] at u2
    have su := last_split u2
    have sd := last_split d2
    have E := ends hs h0 en
    have p0n : p0 ≠ pn := fun z => by
      subst z
      match l, h0, en, h2, hs with
      | x :: y :: r, h0, en, _, hs =>
        have ex : x = p0 := by simpa using h0
        rw [List.getLast?_cons_cons] at en
        have := (List.pairwise_cons.mp hs).1 p0 (List.mem_of_getLast? en)
        rw [ex] at this
        exact ylt_ir this
    have P := (half_of hs hne).1
    have subU : ∀ x ∈ halfH l, x ∈ l := fun x hx => P.sub x (half_mem.mp hx)
    have hne' : back l ≠ [] := fun z => by
      have := congrArg List.length z
      unfold back at this
      simp at this
      exact hne this
    have P' := (half_of (back_inc hs) hne').1
    have mD : ∀ x, x ∈ halfH l.reverse → ng x ∈ halfH (back l) := fun x hx => by rw [half_back]; exact List.mem_map.mpr ⟨x, hx, rfl⟩
    have subD : ∀ x ∈ halfH l.reverse, x ∈ l := fun x hx => back_mem.mp (P'.sub _ (half_mem.mp (mD x hx)))
    have mU : ∀ x, x ∈ halfH l → ng x ∈ halfH (back l).reverse := fun x hx => by
      have e1 : (back l).reverse = l.map ng := by unfold back; rw [← List.map_reverse, List.reverse_reverse]
      rw [e1]
      unfold halfH at hx ⊢
      rw [halfR_ng, ← List.map_reverse]
      exact List.mem_map.mpr ⟨x, hx, rfl⟩
    have mem : ∀ x ∈ hullS l, x ∈ halfH l ∨ x ∈ halfH l.reverse := fun x hx => by
      rw [e] at hx
      exact (List.mem_append.mp hx).imp (fun z => List.dropLast_subset _ z) (fun z => List.dropLast_subset _ z)
    have nb : ∀ a b, Nb (hullS l ++ [p0]) a b → Nb (halfH l) a b ∨ Nb (halfH l.reverse) a b := fun a b h => by
      rw [e, List.append_assoc, ← sd] at h
      cases hD : halfH l.reverse with
      | nil => rw [hD] at d1; cases d1
      | cons t M =>
        rw [hD] at h d1
        have : t = pn := by simpa using d1
        rw [this] at h ⊢
        rcases nb_join h with q | q
        · rw [← su] at q
          exact .inl q
        · exact .inr q
    refine ⟨?_, fun x hx => (mem x hx).elim (subU x) (subD x), fun x hx => (E x hx).1, fun a b h q hq => ?_, fun a b h x hx => ?_⟩
    · rw [e]
      cases hU : (halfH l).dropLast with
      | nil =>
        rw [hU] at su
        rw [su] at u1
        have : pn = p0 := by simpa using u1
        exact absurd this.symm p0n
      | cons t M =>
        rw [su, hU] at u1
        simpa using u1
    · rcases nb a b h with z | z
      · exact left_of hs z q hq
      · have z' := nb_ng z
        rw [← half_back] at z'
        have := left_of (back_inc hs) z' (ng q) (back_mem.mpr hq)
        rw [turn_ng] at this
        exact this
    · rcases nb a b h with z | z
      · exact strict_of hs z ((mem x hx).imp id fun w => ⟨w, subD x w⟩)
      · have z' := nb_ng z
        rw [← half_back] at z'
        have := strict_of (back_inc hs) (x := ng x) z' ((mem x hx).elim (fun w => .inr ⟨mU x w, back_mem.mpr (subU x w)⟩) fun w => .inl (mD x w))
        rw [turn_ng] at this
        exact this.imp ng_inj fun w => w.imp ng_inj id

abbrev s_law_hull_of : Stmt := topS 37
theorem s_law_hull_of_sc : FnScope ["_law_spots", "_law_rows", "_law_places", "_law_up", "_law_down", "_law_spot", "_law_row"] ["_law_spots"] (defScope s_law_hull_of) := ⟨rfl, rfl, rfl, by decide +kernel, rfl, by decide +kernel, by decide +kernel⟩
def sw (p : PI2) : PI2 := (p.2, p.1)
def hullL (l : List PI2) : List PI2 := hullS ((sortU (l.map sw)).map sw)
theorem range_getD {l : List PI2} {f : PI2 → D} : (List.range l.length).map (fun i => f (l.getD i (0, 0))) = l.map f := by
  refine List.ext_getElem (by simp) fun i h1 h2 => ?_
  have hi : i < l.length := by simpa using h2
  rw [List.getElem_map, List.getElem_map, List.getElem_range, List.getD_eq_getElem?_getD, List.getElem?_eq_getElem hi]
  rfl
section
variable {W : Wd} {S : Sg}
theorem sw_list {X : Cx} {k : Nat} {g : En} {U : WX} (C : Cc X W S k) {l : List PI2} (hl : l.length ≤ 1200) {iter elt : Expr} {x : Str} {ix : Nat} {px pos : Pos} {scope : Scope} (he : Fw.XE X S g iter (.lst (l.map pairD))) (ok : BlkOk X.N X.env.scope scope [(x, ix)])
    (hg : ix < g.length) (hn : X.N[ix]? = some x) (hv : scope.names.lookup x = some .local)
    (hel : ∀ X' : Cx, InK X' W S k X.N (relabel scope X.env) → ∀ p : PI2, ∀ g' : En, g'[ix]? = some (.v (pairD p)) → Fw.XE X' S g' elt (pairD (sw p)))
    (hs : ∀ x, foldedSetIterable iter X.env x = pure x := by intro _; rfl) : XN X S g (.ListComp elt [⟨.Name x px, iter, [], 0⟩] scope pos) ((l.map sw).map pairD) := by
  have hr : (l.map sw).map pairD = resL (fun _ => true) (fun i => pairD (sw (l.getD i (0, 0)))) (l.map pairD).length := by
    rw [resL_map, List.length_map, range_getD (f := fun p => pairD (sw p)), List.map_map]
    rfl
  rw [hr]
  refine n_lc C (i_list C.toKb he) ok (fun _ => true) (fun i => pairD (sw (l.getD i (0, 0)))) (fun i => (wipeG g [ix]).set ix (.v (pairD (l.getD i (0, 0))))) (by rw [List.length_map]; omega) (fun X' bk i hi => ⟨?_, ts_nil, fun _ => ?_⟩) hs
  · rw [List.length_map] at hi
    rw [itOf_pair hi]
    exact gw_name bk.C.toKb ⟨by rw [bk.N]; exact hn, by unfold L2.Loc; rw [bk.sc]; exact .inl (lookup_relabel_local hv), .inr (by rw [bk.sc]; exact lookup_relabel_local hv)⟩ List.mem_cons_self
  · refine hel X' bk _ _ (List.getElem?_set_self ?_)
    have : ∀ vs : List Nat, (wipeG g vs).length = g.length := fun vs => by
      induction vs with
      | nil => rfl
      | cons v vs ih => unfold wipeG; rw [List.length_set, ih]
    rw [this]
    exact hg
end
theorem sw_sw (p : PI2) : sw (sw p) = p := rfl
theorem sortU_inc (l : List PI2) : Inc ((sortU l).map sw) := by
  refine List.pairwise_map.mpr (sortU_srt.imp fun {a b} h => ?_)
  unfold plt at h
  unfold ylt sw
  exact h
theorem drop_last_cut {ds : List D} : cutD ds none (some ((ds.length : Int) - 1)) = ds.dropLast := by
  unfold cutD
  cases ds with
  | nil => rfl
  | cons d ds =>
    have e : HT.sIx (d :: ds).length (d :: ds).length (some (((d :: ds).length : Int) - 1)) = ds.length := by
      have : (((d :: ds).length : Nat) : Int) - 1 = (ds.length : Int) := by simp
      rw [this, HT.sIx_nat, List.length_cons]
      omega
    have e0 : HT.sIx (d :: ds).length 0 none = 0 := rfl
    rw [e, e0, List.drop_zero, List.dropLast_eq_take]
    simp
section
variable {W : Wd} {S : Sg}
/-- the same, stored at once -/
theorem sw_set {X : Cx} {k : Nat} {g : En} {U : WX} {P : Po} (C : Cc X W S k) {l : List PI2} (hl : l.length ≤ 1200) {iter elt : Expr} {x y : Str} {ix iy : Nat} {px py pos spos : Pos} {scope : Scope} (Ny : Nl X iy y) (hyl : X.env.scope.names.lookup y = some .local) (he : Fw.XE X S g iter (.lst (l.map pairD))) (ok : BlkOk X.N X.env.scope scope [(x, ix)])
    (hg : ix < g.length) (hn : X.N[ix]? = some x) (hv : scope.names.lookup x = some .local)
    (hel : ∀ X' : Cx, InK X' W S k X.N (relabel scope X.env) → ∀ p : PI2, ∀ g' : En, g'[ix]? = some (.v (pairD p)) → Fw.XE X' S g' elt (pairD (sw p)))
    (hP : P.nx (g.set iy (.own ((l.map sw).map pairD)))) (hsw : swapsWith (.ListComp elt [⟨.Name x px, iter, [], 0⟩] scope pos) (some (.Name y py)) spos.line X.env = pure true)
    (hs : ∀ x, foldedSetIterable iter X.env x = pure x := by intro _; rfl) : XS X S U g (.Assign [.Name y py] (.ListComp elt [⟨.Name x px, iter, [], 0⟩] scope pos) spos) P := by
  have hr : (l.map sw).map pairD = resL (fun _ => true) (fun i => pairD (sw (l.getD i (0, 0)))) (l.map pairD).length := by
    rw [resL_map, List.length_map, range_getD (f := fun p => pairD (sw p)), List.map_map]
    rfl
  rw [hr] at hP
  refine s_setLc C Ny hyl (i_list C.toKb he) ok (fun _ => true) (fun i => pairD (sw (l.getD i (0, 0)))) (fun i => (wipeG g [ix]).set ix (.v (pairD (l.getD i (0, 0))))) (by rw [List.length_map]; omega) (fun X' bk i hi => ⟨?_, ts_nil, fun _ => ?_⟩) hP hsw hs
  · rw [List.length_map] at hi
    rw [itOf_pair hi]
    exact gw_name bk.C.toKb ⟨by rw [bk.N]; exact hn, by unfold L2.Loc; rw [bk.sc]; exact .inl (lookup_relabel_local hv), .inr (by rw [bk.sc]; exact lookup_relabel_local hv)⟩ List.mem_cons_self
  · refine hel X' bk _ _ (List.getElem?_set_self ?_)
    have : ∀ vs : List Nat, (wipeG g vs).length = g.length := fun vs => by
      induction vs with
      | nil => rfl
      | cons v vs ih => unfold wipeG; rw [List.length_set, ih]
    rw [this]
    exact hg
end
def RHull (ds : List D) (o : Out) : Prop := ∃ l : List PI2, l ≠ [] ∧ l.length ≤ 1200 ∧ (∀ p ∈ l, b2 p) ∧ ds = [.lst (l.map pairD)] ∧ o = .ok (.lst ((hullL l).map pairD))
theorem hull_r {l : List PI2} (h : l ≠ []) (h1 : l.length ≤ 1200) (h2 : ∀ p ∈ l, b2 p) : RHull ([.lst (l.map pairD)] ++ []) (.ok (.lst ((hullL l).map pairD))) := ⟨l, h, h1, h2, rfl, rfl⟩
section
variable {W : Wd} {S : Sg}
theorem ok_hullof {f : Addr} {fd : FuncData} (F : Fd W.K "_law_hull_of" "_law_hull_of" s_law_hull_of [] f fd) (hK : W.K = S.K) (T : Mb W) (f_halfhull : Fn W S 2 "_law_half_hull" 1 [] RHalf) :
    FnOk W.P W.w W.K W.mg W.base (L2N.CX W.P W.w) 3 f fd ["_law_spots"] (spOf S 1 RHull) := by
  refine def_ok F hK s_law_hull_of_sc (fun ds o h => by obtain ⟨_, _, _, _, rfl, _⟩ := h; rfl) fun X U ds o b h => ?_
  obtain ⟨l, hne, hl, hb, rfl, rfl⟩ := h
  have C := b.C
  obtain ⟨n__law_spots, l__law_spots⟩ := b.nm 0 "_law_spots" rfl (.inl rfl) (by decide) (by decide)
  obtain ⟨n__law_rows, l__law_rows⟩ := b.nm 1 "_law_rows" rfl (.inl rfl) (by decide) (by decide)
  obtain ⟨n__law_places, l__law_places⟩ := b.nm 2 "_law_places" rfl (.inl rfl) (by decide) (by decide)
  obtain ⟨n__law_up, l__law_up⟩ := b.nm 3 "_law_up" rfl (.inl rfl) (by decide) (by decide)
  obtain ⟨n__law_down, l__law_down⟩ := b.nm 4 "_law_down" rfl (.inl rfl) (by decide) (by decide)
  have g_sorted := b.ng "sorted" rfl (by decide)
  have m_sorted := b.mg T.sorted
  have g_set := b.ng "set" rfl (by decide)
  have m_set := b.mg T.set
  have g_len := b.ng "len" rfl (by decide)
  have m_len := b.mg T.len
  have g__law_half_hull := b.ng "_law_half_hull" rfl (by decide)
  change XB _ _ _ [.v (.lst (l.map pairD)), .no, .no, .no, .no, .no, .no] _ _
  have blk : ∀ sc2 own, blkC X.N (defScope s_law_hull_of) sc2 own = true → BlkOk X.N X.env.scope sc2 own := fun sc2 own h => by rw [b.sc]; exact blkOk_by h
  refine' s_cons (s_asg C.toKb l__law_rows (n_e (Bg.n_sortsetG C (n_e (sw_list (l := l) (x := "_law_spot") (ix := 5) (U := U) C (by omega) (e_var n__law_spots rfl) (blk _ _ (by rw [b.N]; rfl)) (Nat.le_of_ble_eq_true rfl) (by rw [b.N]; rfl) rfl ?hel)) g_sorted m_sorted g_set m_set (by rw [List.length_map]; omega))) ?k1)
  case hel =>
    intro X' bk p g' hg
    have nS := bk.nm 5 "_law_spot" (by rw [b.N]; rfl) (.inl (lookup_relabel_local rfl)) (by decide) (by decide)
    exact e_tup (a_cons (e_ix (e_var nS hg) e_int (x_tup bk.C.toKb rfl)) (a_cons (e_ix (e_var nS hg) e_int (x_tup bk.C.toKb rfl)) a_nil)) (Nat.le_of_ble_eq_true rfl)
  have e1 : sortU (l.map sw) ≠ [] := fun z => by
    cases l with
    | nil => exact hne rfl
    | cons q l =>
      have : sw q ∈ sortU ((q :: l).map sw) := sortU_mem.mpr (List.mem_map.mpr ⟨q, List.mem_cons_self, rfl⟩)
      rw [z] at this
      cases this
  have e2 : (sortU (l.map sw)).length ≤ 1200 := Nat.le_trans sortU_len (by rw [List.length_map]; exact hl)
  have e3 : ∀ p ∈ (sortU (l.map sw)).map sw, b2 p := fun p hp => by
    obtain ⟨q, hq, rfl⟩ := List.mem_map.mp hp
    obtain ⟨r, hr, rfl⟩ := List.mem_map.mp (sortU_mem.mp hq)
    exact hb r hr
  have hh : hullL l = hullS ((sortU (l.map sw)).map sw) := rfl
  rw [hh]
  generalize sortU (l.map sw) = r at e1 e2 e3 ⊢
  dsimp only [List.set_cons_succ, List.set_cons_zero]
  refine' s_cons (sw_set (l := r) (x := "_law_row") (ix := 6) C (by omega) l__law_places (by rw [b.sc]; rfl) (e_var n__law_rows rfl) (blk _ _ (by rw [b.N]; rfl)) (Nat.le_of_ble_eq_true rfl) (by rw [b.N]; rfl) rfl ?hel2 ?k2 (sw_true (by rw [b.sc]; rfl) (by rw [b.sc]; rfl) rfl rfl))
  case hel2 =>
    intro X' bk p g' hg
    have nS := bk.nm 6 "_law_row" (by rw [b.N]; rfl) (.inl (lookup_relabel_local rfl)) (by decide) (by decide)
    exact e_tup (a_cons (e_ix (e_var nS hg) e_int (x_tup bk.C.toKb rfl)) (a_cons (e_ix (e_var nS hg) e_int (x_tup bk.C.toKb rfl)) a_nil)) (Nat.le_of_ble_eq_true rfl)
  dsimp only [List.set_cons_succ, List.set_cons_zero]
  have p1 : (r.map sw).length ≤ 1200 := by rw [List.length_map]; exact e2
  generalize r.map sw = p at e3 p1 ⊢
  refine b_freeze 2 rfl ?_
  dsimp only [List.set_cons_succ, List.set_cons_zero]
  have hlen : (p.map pairD).length = p.length := List.length_map ..
  by_cases z : p.length = 1
  · have hz : decide (((p.map pairD).length : Int) = 1) = true := decide_eq_true (by omega)
    walk_at "ifT"
    walk_at "ret"
    show D.lst _ = D.lst _
    unfold hullS
    rw [if_pos z]
  · have hz : decide (((p.map pairD).length : Int) = 1) = false := decide_eq_false (by omega)
    walk_at "ifF"
    have q1 : p.length ≤ 1200 := by omega
    walk_at "asg"
    refine' s_cons (s_asg C.toKb l__law_down (d := .lst ((halfH p.reverse).map pairD)) ?x2 ?k3)
    case x2 =>
      refine' e_call C f_halfhull g__law_half_hull (a_cons (n_e (n_rev (p4 := ⟨0, 0, 0, 0⟩) C.toKb (e_var n__law_places rfl))) a_nil) ?r2
      case r2 =>
        rw [← List.map_reverse]
        exact half_r (by rw [List.length_reverse]; exact q1) (fun q hq => e3 q (List.mem_reverse.mp hq))
    dsimp only [List.set_cons_succ, List.set_cons_zero]
    have u1 : ((halfH p).map pairD).length ≤ 1200 := by
      have := halfR_len _ p rfl
      unfold halfH
      rw [List.length_map, List.length_reverse]
      omega
    have u2 : ((halfH p.reverse).map pairD).length ≤ 1200 := by
      have := halfR_len _ p.reverse rfl
      unfold halfH
      rw [List.length_map, List.length_reverse]
      rw [List.length_reverse] at this
      omega
    refine' s_cons (s_ret (n_e (n_cat (n_cut C.toKb (e_var n__law_up rfl) o_none (o_some ?x3)) (n_cut C.toKb (e_var n__law_down rfl) o_none (o_some ?x4)) ?z3)) ?k4)
    case x3 => walk_at "ex"
    case x4 => walk_at "ex"
    case z3 =>
      rw [drop_last_cut, drop_last_cut, List.length_dropLast, List.length_dropLast]
      omega
    show D.lst _ = D.lst _
    rw [drop_last_cut, drop_last_cut]
    unfold hullS
    rw [if_neg z, List.map_append, List.map_dropLast, List.map_dropLast]
end
local macro_rules | `(tactic| walk_at "cl") => `(tactic| exact hull_r (by assumption) (by first | assumption | omega) (by assumption))

abbrev s_common_multiple : Stmt := topS 11
theorem s_common_multiple_sc : FnScope ["one", "two"] ["one", "two"] (defScope s_common_multiple) := ⟨rfl, rfl, rfl, by decide +kernel, rfl, by decide +kernel, by decide +kernel⟩
/-- the least common multiple, as the program makes it -/
def mulI (a b : Int) : Int := a / (Int.gcd a b : Int) * b
theorem mulI_law {a b v : Int} (ha : 0 < a) (hb : 0 < b) (h1 : a ∣ v) (h2 : b ∣ v) : 0 < mulI a b ∧ mulI a b ∣ v ∧ a ∣ mulI a b ∧ b ∣ mulI a b := by
  have hg := gcd_pos (n := a) hb
  have e1 : a / (Int.gcd a b : Int) * (Int.gcd a b : Int) = a := Int.ediv_mul_cancel (Int.gcd_dvd_left _ _)
  have e2 : b / (Int.gcd a b : Int) * (Int.gcd a b : Int) = b := Int.ediv_mul_cancel (Int.gcd_dvd_right _ _)
  have e3 : (Int.gcd a b : Int) * (Int.lcm a b : Int) = a * b := by
    have := Int.gcd_mul_lcm a b
    have h : 0 < a * b := Int.mul_pos ha hb
    rw [← Int.natCast_mul, this, Int.natCast_mul, Int.natAbs_of_nonneg (by omega), Int.natAbs_of_nonneg (by omega)]
  have el : mulI a b = (Int.lcm a b : Int) := by
    unfold mulI
    have : (Int.gcd a b : Int) * (a / (Int.gcd a b : Int) * b) = (Int.gcd a b : Int) * (Int.lcm a b : Int) := by
      rw [e3, ← Int.mul_assoc, Int.mul_comm (Int.gcd a b : Int), e1]
    exact Int.eq_of_mul_eq_mul_left (by omega) this
  rw [el]
  refine ⟨?_, Int.ofNat_dvd_left.mpr (Nat.lcm_dvd (Int.natAbs_dvd_natAbs.mpr h1) (Int.natAbs_dvd_natAbs.mpr h2)), Int.dvd_lcm_left a b, Int.dvd_lcm_right a b⟩
  rcases Int.lt_or_le 0 (Int.lcm a b : Int) with z | z
  · exact z
  · have h : 0 < a * b := Int.mul_pos ha hb
    have : (Int.gcd a b : Int) * (Int.lcm a b : Int) ≤ 0 := Int.mul_nonpos_of_nonneg_of_nonpos (by omega) z
    omega
def RLcm (ds : List D) (o : Out) : Prop := ∃ a b : Int, 0 < a ∧ 0 < b ∧ Bd a 3000 ∧ Bd b 3000 ∧ ds = [.int a, .int b] ∧ o = .ok (.int (mulI a b))
theorem lcm_r {a b : Int} (h1 : 0 < a) (h2 : 0 < b) (h3 : Bd a 3000) (h4 : Bd b 3000) : RLcm ([.int a, .int b] ++ []) (.ok (.int (mulI a b))) := ⟨a, b, h1, h2, h3, h4, rfl, rfl⟩
section
variable {W : Wd} {S : Sg}
theorem ok_cmult {f : Addr} {fd : FuncData} (F : Fd W.K "common_multiple" "common_multiple" s_common_multiple [] f fd) (hK : W.K = S.K) (T : Mb W) (f_gcd : Fn W S 1 "common_divisor" 2 [] RGcd) : FnOk W.P W.w W.K W.mg W.base (L2N.CX W.P W.w) 2 f fd ["one", "two"] (spOf S 2 RLcm) := by
  refine def_ok F hK s_common_multiple_sc (fun ds o h => by obtain ⟨_, _, _, _, _, _, rfl, _⟩ := h; rfl) fun X U ds o b h => ?_
  obtain ⟨p, q, h1, h2, h3, h4, rfl, rfl⟩ := h
  have C := b.C
  obtain ⟨n_one, l_one⟩ := b.nm 0 "one" rfl (.inl rfl) (by decide) (by decide)
  obtain ⟨n_two, l_two⟩ := b.nm 1 "two" rfl (.inl rfl) (by decide) (by decide)
  have g_common_divisor := b.ng "common_divisor" rfl (by decide)
  change XB _ _ _ [.v (.int p), .v (.int q)] _ _
  have hg := gcd_pos (n := p) h2
  haveI := gcd_small (n := p) h2 h4
  walk_at "ret"
  rfl
end
local macro_rules | `(tactic| walk_at "cl") => `(tactic| exact lcm_r (by assumption) (by assumption) (by assumption) (by assumption))

abbrev s_common_over : Stmt := topS 18
theorem s_common_over_sc : FnScope ["points", "shared", "point"] ["points"] (defScope s_common_over) := ⟨rfl, rfl, rfl, by decide +kernel, rfl, by decide +kernel, by decide +kernel⟩
abbrev P3 := Int × Int × Int
def pt3 (p : P3) : D := .pt p.1 p.2.1 p.2.2
def covI (l : List P3) : Int := l.foldl (fun s p => mulI s p.2.2) 1
def okP (v : Int) (p : P3) : Prop := 0 < p.2.2 ∧ p.2.2 ∣ v ∧ Bd p.1 1000 ∧ Bd p.2.1 1000
theorem cov_snoc {l : List P3} {p : P3} : covI (l ++ [p]) = mulI (covI l) p.2.2 := by
  unfold covI
  rw [List.foldl_append]
  rfl
theorem cov_law {v : Int} (hv : 0 < v) : ∀ (n : Nat) (l : List P3), l.length = n → (∀ p ∈ l, okP v p) → 0 < covI l ∧ covI l ∣ v ∧ ∀ p ∈ l, p.2.2 ∣ covI l
  | 0, l, h, _ => by
    have : l = [] := List.eq_nil_of_length_eq_zero h
    subst this
    exact ⟨by decide, Int.one_dvd _, fun p hp => nomatch hp⟩
  | n + 1, l, h, hp => by
    obtain ⟨m, p, e⟩ : ∃ m p, l = m ++ [p] := by
      have hne : l ≠ [] := fun z => by rw [z] at h; cases h
      exact ⟨l.dropLast, l.getLast hne, (List.dropLast_concat_getLast hne).symm⟩
    subst e
    obtain ⟨i1, i2, i3⟩ := cov_law hv n m (by simpa using h) fun p hq => hp p (List.mem_append_left _ hq)
    obtain ⟨k1, k2, _, _⟩ := hp p (by simp)
    obtain ⟨j1, j2, j3, j4⟩ := mulI_law i1 k1 i2 k2
    rw [cov_snoc]
    refine ⟨j1, j2, fun q hq => ?_⟩
    rcases List.mem_append.mp hq with z | z
    · exact Int.dvd_trans (i3 q z) j3
    · rw [List.mem_singleton.mp z]
      exact j4
theorem bd_dvd {a v : Int} {m : Nat} (h0 : 0 < a) (hv : 0 < v) (h : a ∣ v) (b : Bd v m) : Bd a m := ⟨by
  have := Int.le_of_dvd hv h
  have := b.h
  omega⟩
def RCov (ds : List D) (o : Out) : Prop := ∃ (l : List P3) (v : Int), 0 < v ∧ Bd v 3000 ∧ l.length ≤ 1000 ∧ (∀ p ∈ l, okP v p) ∧ ds = [.lst (l.map pt3)] ∧ o = .ok (.int (covI l))
theorem cov_r {l : List P3} {v : Int} (h : 0 < v) (h1 : Bd v 3000) (h2 : l.length ≤ 1000) (h3 : ∀ p ∈ l, okP v p) : RCov ([.lst (l.map pt3)] ++ []) (.ok (.int (covI l))) := ⟨l, v, h, h1, h2, h3, rfl, rfl⟩
section
variable {W : Wd} {S : Sg}
theorem ok_commonover {f : Addr} {fd : FuncData} (F : Fd W.K "common_over" "common_over" s_common_over [] f fd) (hK : W.K = S.K) (T : Mb W) (TP : PtC W S) (f_cmult : Fn W S 2 "common_multiple" 2 [] RLcm) :
    FnOk W.P W.w W.K W.mg W.base (L2N.CX W.P W.w) 3 f fd ["points"] (spOf S 1 RCov) := by
  refine def_ok F hK s_common_over_sc (fun ds o h => by obtain ⟨_, _, _, _, _, _, rfl, _⟩ := h; rfl) fun X U ds o b h => ?_
  obtain ⟨l, v, hv, h1, h2, h3, rfl, rfl⟩ := h
  have C := b.C
  obtain ⟨n_points, l_points⟩ := b.nm 0 "points" rfl (.inl rfl) (by decide) (by decide)
  obtain ⟨n_shared, l_shared⟩ := b.nm 1 "shared" rfl (.inl rfl) (by decide) (by decide)
  obtain ⟨n_point, l_point⟩ := b.nm 2 "point" rfl (.inl rfl) (by decide) (by decide)
  have g_common_multiple := b.ng "common_multiple" rfl (by decide)
  change XB _ _ _ [.v (.lst (l.map pt3)), .no, .no] _ _
  walk_at "asg"
  refine s_mid (fun g => ∃ k : Sl, g = [.v (.lst (l.map pt3)), .v (.int (covI l)), k]) ?_ ?_
  · refine' s_for C (i_list C.toKb (e_var n_points rfl)) (fun i g => ∃ k : Sl, g = [.v (.lst (l.map pt3)), .v (.int (covI (l.take i))), k]) ⟨.no, rfl⟩ ?_ (fun g h => by
      obtain ⟨k, rfl⟩ := h
      exact ⟨k, by rw [List.length_map, List.take_length]⟩)
    rintro i g hi ⟨k, rfl⟩
    rw [List.length_map] at hi
    rw [itOf_map (z := (0, 0, 0)) hi]
    have hp := h3 _ (getD_mem (z := (0, 0, 0)) hi)
    have ht : l.take (i + 1) = l.take i ++ [l.getD i (0, 0, 0)] := by
      rw [List.take_succ, List.getD_eq_getElem?_getD, List.getElem?_eq_getElem hi]
      rfl
    rw [ht, cov_snoc]
    obtain ⟨c1, c2, _⟩ := cov_law hv _ (l.take i) rfl fun p hq => h3 p (List.mem_of_mem_take hq)
    generalize l.getD i (0, 0, 0) = p at hp ⊢
    generalize covI (l.take i) = s at c1 c2 ⊢
    obtain ⟨p1, p2, p3⟩ := p
    obtain ⟨k1, k2, _, _⟩ := hp
    refine ⟨_, g_name C.toKb l_point, ?_⟩
    dsimp only [List.set_cons_succ, List.set_cons_zero]
    have z1 := bd_dvd c1 hv c2 h1
    have z2 := bd_dvd k1 hv k2 h1
    change XB _ _ _ [.v (.lst (l.map pt3)), .v (.int s), .v (.pt p1 p2 p3)] _ _
    walk_at "asg"
    exact s_nil ⟨_, rfl⟩
  · rintro g ⟨k, rfl⟩
    walk_at "ret"
    rfl
end
local macro_rules | `(tactic| walk_at "cl") => `(tactic| exact cov_r (by assumption) (by assumption) (by assumption) (by assumption))

abbrev s_places_of : Stmt := topS 19
theorem s_places_of_sc : FnScope ["points", "shared", "point"] ["points"] (defScope s_places_of) := ⟨rfl, rfl, rfl, by decide +kernel, rfl, by decide +kernel, by decide +kernel⟩
def plI (l : List P3) : List PI2 := l.map fun p => (p.1 * (covI l / p.2.2), p.2.1 * (covI l / p.2.2))
def RPlc (ds : List D) (o : Out) : Prop := ∃ (l : List P3) (v : Int), 0 < v ∧ Bd v 3000 ∧ l.length ≤ 1000 ∧ (∀ p ∈ l, okP v p) ∧ ds = [.lst (l.map pt3)] ∧ o = .ok (.lst ((plI l).map pairD))
theorem plc_r {l : List P3} {v : Int} (h : 0 < v) (h1 : Bd v 3000) (h2 : l.length ≤ 1000) (h3 : ∀ p ∈ l, okP v p) : RPlc ([.lst (l.map pt3)] ++ []) (.ok (.lst ((plI l).map pairD))) := ⟨l, v, h, h1, h2, h3, rfl, rfl⟩
section
variable {W : Wd} {S : Sg}
theorem ok_placesof {f : Addr} {fd : FuncData} (F : Fd W.K "places_of" "places_of" s_places_of [] f fd) (hK : W.K = S.K) (T : Mb W) (TP : PtC W S) (f_commonover : Fn W S 3 "common_over" 1 [] RCov) :
    FnOk W.P W.w W.K W.mg W.base (L2N.CX W.P W.w) 4 f fd ["points"] (spOf S 1 RPlc) := by
  refine def_ok F hK s_places_of_sc (fun ds o h => by obtain ⟨_, _, _, _, _, _, rfl, _⟩ := h; rfl) fun X U ds o b h => ?_
  obtain ⟨l, v, hv, h1, h2, h3, rfl, rfl⟩ := h
  have C := b.C
  obtain ⟨n_points, l_points⟩ := b.nm 0 "points" rfl (.inl rfl) (by decide) (by decide)
  obtain ⟨n_shared, l_shared⟩ := b.nm 1 "shared" rfl (.inr rfl) (by decide) (by decide)
  have g_common_over := b.ng "common_over" rfl (by decide)
  change XB _ _ _ [.v (.lst (l.map pt3)), .no, .no] _ _
  have blk : ∀ sc2 own, blkC X.N (defScope s_places_of) sc2 own = true → BlkOk X.N X.env.scope sc2 own := fun sc2 own h => by rw [b.sc]; exact blkOk_by h
  walk_at "asg"
  obtain ⟨c1, c2, c3⟩ := cov_law hv _ l rfl h3
  have z1 := bd_dvd c1 hv c2 h1
  have e : (plI l).map pairD = l.map fun p => pairD (p.1 * (covI l / p.2.2), p.2.1 * (covI l / p.2.2)) := by
    unfold plI
    rw [List.map_map]
    rfl
  rw [e]
  generalize covI l = s at c1 c2 c3 z1 ⊢
  refine' s_cons (s_ret (n_e (lc_map (l := l) (da := pt3) (f := fun p => pairD (p.1 * (s / p.2.2), p.2.1 * (s / p.2.2))) (0, 0, 0) (x := "point") (ix := 2) C (by omega) (e_var n_points rfl) (blk _ _ (by rw [b.N]; rfl)) (by rw [b.N]; rfl) rfl ?hel)) ?k1)
  case k1 => rfl
  intro X' bk p hp
  obtain ⟨k1, k2, k3, k4⟩ := h3 p hp
  have z2 := bd_dvd k1 hv k2 h1
  obtain ⟨p1, p2, p3⟩ := p
  have C' := bk.C
  have nP := bk.own 2 "point" (by rw [b.N]; rfl) rfl (by decide) (by decide)
  have nS := bk.caught 1 "shared" (by rw [b.N]; rfl) rfl (by decide) (by decide)
  change Fw.XE X' S [.v (.lst (l.map pt3)), .v (.int s), .v (.pt p1 p2 p3)] _ (.tup [.int (p1 * (s / p3)), .int (p2 * (s / p3))])
  walk_at "ex"
end
local macro_rules | `(tactic| walk_at "cl") => `(tactic| exact plc_r (by assumption) (by assumption) (by assumption) (by assumption))

abbrev s_turn : Stmt := topS 20
theorem s_turn_sc : FnScope ["start", "end", "place"] ["start", "end", "place"] (defScope s_turn) := ⟨rfl, rfl, rfl, by decide +kernel, rfl, by decide +kernel, by decide +kernel⟩
section
variable {W : Wd} {S : Sg}
theorem ok_turn {f : Addr} {fd : FuncData} (F : Fd W.K "turn" "turn" s_turn [] f fd) (hK : W.K = S.K) (T : Mb W) : FnOk W.P W.w W.K W.mg W.base (L2N.CX W.P W.w) 1 f fd ["start", "end", "place"] (spOf S 3 RTrn) := by
  refine def_ok F hK s_turn_sc (fun ds o h => by obtain ⟨_, _, _, _, _, _, rfl, _⟩ := h; rfl) fun X U ds o b h => ?_
  obtain ⟨⟨a1, a2⟩, ⟨b1, b2⟩, ⟨p1, p2⟩, ⟨_, _⟩, ⟨_, _⟩, ⟨_, _⟩, rfl, rfl⟩ := h
  have C := b.C
  obtain ⟨n_start, l_start⟩ := b.nm 0 "start" rfl (.inl rfl) (by decide) (by decide)
  obtain ⟨n_end, l_end⟩ := b.nm 1 "end" rfl (.inl rfl) (by decide) (by decide)
  obtain ⟨n_place, l_place⟩ := b.nm 2 "place" rfl (.inl rfl) (by decide) (by decide)
  change XB _ _ _ [.v (.tup [.int a1, .int a2]), .v (.tup [.int b1, .int b2]), .v (.tup [.int p1, .int p2])] _ _
  walk_at "ret"
  rfl
end

abbrev s_is_bent : Stmt := topS 24
theorem s_is_bent_sc : FnScope ["places", "at", "after", "others", "k", "place"] ["places", "at"] (defScope s_is_bent) := ⟨rfl, rfl, rfl, by decide +kernel, rfl, by decide +kernel, by decide +kernel⟩
def nxtI (l : List PI2) (i : Nat) : Nat := (i + 1) % l.length
def atP (l : List PI2) (i : Nat) : PI2 := l.getD i (0, 0)
def othI (l : List PI2) (i : Nat) : List PI2 := ((List.range l.length).filter fun k => decide (k ≠ i) && decide (k ≠ nxtI l i)).map fun k => atP l k
def bentI (l : List PI2) (i : Nat) : Bool :=
  if nxtI l i = i then false else decide (atP l i = atP l (nxtI l i)) || ((othI l i).map fun p => decide (turnI (atP l i) (atP l (nxtI l i)) p ≤ 0)).any id
theorem resL_filter {b : Nat → Bool} {dd : Nat → D} : ∀ n, resL b dd n = ((List.range n).filter b).map dd
  | 0 => rfl
  | n + 1 => by
    unfold resL
    rw [resL_filter n, List.range_succ, List.filter_append, List.map_append]
    cases h : b n with
    | true => rw [if_pos rfl]; simp [h]
    | false => rw [if_neg Bool.false_ne_true]; simp [h]
theorem atI_pair {l : List PI2} {i : Nat} (h : i < l.length) : atI (l.map pairD) (i : Int) = some (pairD (atP l i)) := by
  refine Fw.atI_nat ?_
  unfold atP
  rw [List.getElem?_map, List.getD_eq_getElem?_getD, List.getElem?_eq_getElem h]
  rfl
def RBent (ds : List D) (o : Out) : Prop := ∃ (l : List PI2) (i : Nat), i < l.length ∧ l.length ≤ 1000 ∧ (∀ p ∈ l, b2 p) ∧ ds = [.lst (l.map pairD), .int i] ∧ o = .ok (.bl (bentI l i))
theorem bent_r {l : List PI2} {i : Nat} (h : i < l.length) (h1 : l.length ≤ 1000) (h2 : ∀ p ∈ l, b2 p) : RBent ([.lst (l.map pairD), .int i] ++ []) (.ok (.bl (bentI l i))) := ⟨l, i, h, h1, h2, rfl, rfl⟩
section
variable {W : Wd} {S : Sg}
theorem ok_isbent {f : Addr} {fd : FuncData} (F : Fd W.K "is_bent" "is_bent" s_is_bent [] f fd) (hK : W.K = S.K) (T : Mb W) (f_turn : Fn W S 1 "turn" 3 [] RTrn) : FnOk W.P W.w W.K W.mg W.base (L2N.CX W.P W.w) 2 f fd ["places", "at"] (spOf S 2 RBent) := by
  refine def_ok F hK s_is_bent_sc (fun ds o h => by obtain ⟨_, _, _, _, _, rfl, _⟩ := h; rfl) fun X U ds o b h => ?_
  obtain ⟨l, i, hi, hl, hb, rfl, rfl⟩ := h
  have C := b.C
  obtain ⟨n_places, l_places⟩ := b.nm 0 "places" rfl (.inr rfl) (by decide) (by decide)
  obtain ⟨n_at, l_at⟩ := b.nm 1 "at" rfl (.inr rfl) (by decide) (by decide)
  obtain ⟨n_after, l_after⟩ := b.nm 2 "after" rfl (.inr rfl) (by decide) (by decide)
  obtain ⟨n_others, l_others⟩ := b.nm 3 "others" rfl (.inl rfl) (by decide) (by decide)
  have g_len := b.ng "len" rfl (by decide)
  have m_len := b.mg T.len
  have g_enumerate := b.ng "enumerate" rfl (by decide)
  have m_enumerate := b.mg T.enumerate
  have g_any := b.ng "any" rfl (by decide)
  have m_any := b.mg T.any
  change XB _ _ _ [.v (.lst (l.map pairD)), .v (.int i), .no, .no, .no, .no] _ _
  have blk : ∀ sc2 own, blkC X.N (defScope s_is_bent) sc2 own = true → BlkOk X.N X.env.scope sc2 own := fun sc2 own h => by rw [b.sc]; exact blkOk_by h
  have hlen : (l.map pairD).length = l.length := List.length_map ..
  have hp : (0 : Int) < ((l.map pairD).length : Int) := by rw [hlen]; omega
  walk_at "asg"
  have ea : ((i : Int) + 1) % ((l.map pairD).length : Int) = (nxtI l i : Nat) := by
    rw [hlen]
    unfold nxtI
    rw [Int.natCast_emod]
    rfl
  rw [ea]
  have hn : nxtI l i < l.length := Nat.mod_lt _ (by omega)
  have hbe : bentI l i = if nxtI l i = i then false else decide (atP l i = atP l (nxtI l i)) || ((othI l i).map fun p => decide (turnI (atP l i) (atP l (nxtI l i)) p ≤ 0)).any id := rfl
  have ho : ∀ p ∈ othI l i, b2 p := fun p hp => by
    obtain ⟨k, hk, rfl⟩ := List.mem_map.mp hp
    have := List.mem_range.mp (List.mem_filter.mp hk).1
    exact hb _ (getD_mem this)
  have hol : (othI l i).length ≤ 100000 := by
    unfold othI
    rw [List.length_map]
    have := List.length_filter_le (fun k => decide (k ≠ i) && decide (k ≠ nxtI l i)) (List.range l.length)
    rw [List.length_range] at this
    omega
  have hoe : (othI l i).map pairD = resL (fun k => !decide ((k : Int) = (i : Int)) && !decide ((k : Int) = (nxtI l i : Nat))) (fun k => pairD (atP l k)) l.length := by
    rw [resL_filter]
    unfold othI
    rw [List.map_map]
    congr 1
    refine List.filter_congr fun k _ => ?_
    congr 1
    · by_cases z : k = i
      · subst z; simp
      · have : ¬ (k : Int) = (i : Int) := by omega
        simp [z, this]
    · by_cases z : k = nxtI l i
      · rw [z]; simp
      · have : ¬ (k : Int) = ((nxtI l i : Nat) : Int) := by omega
        simp [z, this]
  rw [hbe]
  have ai := atI_pair hi
  have an := atI_pair hn
  have bi : b2 (atP l i) := hb _ (getD_mem hi)
  have bn : b2 (atP l (nxtI l i)) := hb _ (getD_mem hn)
  have hat : ∀ k, k < l.length → itOf (l.map pairD) k = pairD (atP l k) := fun k hk => itOf_map (z := (0, 0)) hk
  generalize othI l i = os at ho hol hoe ⊢
  clear hbe
  generalize nxtI l i = j at an bn hn hoe ⊢
  generalize atP l i = pi at ai bi ⊢
  generalize atP l j = pj at an bn ⊢
  by_cases z : j = i
  · have hz : decide ((j : Int) = (i : Int)) = true := decide_eq_true (by omega)
    walk_at "ifT"
    walk_at "ret"
    show D.bl _ = D.bl _
    rw [if_pos z]
  · have hz : decide ((j : Int) = (i : Int)) = false := decide_eq_false (by omega)
    walk_at "ifF"
    rw [← hlen] at hoe
    refine' s_cons (s_setLc C l_others (by rw [b.sc]; rfl) (i_enum C.toKb g_enumerate m_enumerate (a_cons (e_var n_places rfl) a_nil)) (blk _ [("k", 4), ("place", 5)] (by rw [b.N]; rfl)) (fun k => !decide ((k : Int) = (i : Int)) && !decide ((k : Int) = (j : Nat))) (fun k => pairD (atP l k)) (fun k => (((wipeG [.v (.lst (l.map pairD)), .v (.int i), .v (.int j), .no, .no, .no] [4, 5]).set 4 (.v (.int k))).set 5 (.v (pairD (atP l k))))) (by rw [hlen]; omega) ?hel ?k1 (sw_true (by rw [b.sc]; rfl) (by rw [b.sc]; rfl) rfl rfl))
    case hel =>
      intro X' bk k hk
      rw [hlen] at hk
      have C' := bk.C
      have n_k := bk.own 4 "k" (by rw [b.N]; rfl) rfl (by decide) (by decide)
      have n_place := bk.own 5 "place" (by rw [b.N]; rfl) rfl (by decide) (by decide)
      have n_at' := bk.caught 1 "at" (by rw [b.N]; rfl) rfl (by decide) (by decide)
      have n_after' := bk.caught 2 "after" (by rw [b.N]; rfl) rfl (by decide) (by decide)
      refine ⟨?_, ts_one ?_, fun _ => e_var n_place rfl⟩
      · rw [hat k hk]
        exact gw_tup C' (gws_cons (gw_name C'.toKb (bk.lc 4 "k" (by rw [b.N]; rfl) rfl) List.mem_cons_self) (gws_cons (gw_name C'.toKb (bk.lc 5 "place" (by rw [b.N]; rfl) rfl) (List.mem_cons_of_mem _ List.mem_cons_self)) gws_nil))
      · change XT X' S [.v (.lst (l.map pairD)), .v (.int i), .v (.int j), .no, .v (.int k), .v (pairD (atP l k))] _ (!decide ((k : Int) = (i : Int)) && !decide ((k : Int) = (j : Nat)))
        walk_at "tx"
    rw [← hoe]
    dsimp only [List.set_cons_succ, List.set_cons_zero]
    refine b_freeze 3 rfl ?_
    dsimp only [List.set_cons_succ, List.set_cons_zero]
    refine' s_cons (s_ret (d := .bl (decide (pi = pj) || (os.map fun p => decide (turnI pi pj p ≤ 0)).any id)) (e_or (XE.is ?x1 ?y1) (fun _ => e_one ?x2)) ?k2)
    case k2 =>
      show D.bl _ = D.bl _
      rw [if_neg z]
    case x1 => walk_at "ex"
    case y1 => exact congrArg D.bl (pair_eqv pi pj)
    case x2 =>
      refine' e_callB (k_any (k := 1) C) g_any m_any PyProof.Rows.Boot.«any» (a_cons (XE.is (n_e (lc_map (l := os) (da := pairD) (f := fun p => .bl (decide (turnI pi pj p ≤ 0))) (0, 0) (x := "place") (ix := 5) C hol (e_var n_others rfl) (blk _ _ (by rw [b.N]; rfl)) (by rw [b.N]; rfl) rfl ?hel2)) ?y2) a_nil)
      case y2 => rw [List.map_map]; rfl
      case hel2 =>
        intro X' bk p hp
        have bp := ho p hp
        have C' := bk.C
        have n_place := bk.own 5 "place" (by rw [b.N]; rfl) rfl (by decide) (by decide)
        have n_places' := bk.caught 0 "places" (by rw [b.N]; rfl) rfl (by decide) (by decide)
        have n_at' := bk.caught 1 "at" (by rw [b.N]; rfl) rfl (by decide) (by decide)
        have n_after' := bk.caught 2 "after" (by rw [b.N]; rfl) rfl (by decide) (by decide)
        have g_turn' := bk.glob "turn" rfl (by decide)
        change Fw.XE X' S [.v (.lst (l.map pairD)), .v (.int i), .v (.int j), .v (.lst (os.map pairD)), .no, .v (pairD p)] _ _
        walk_at "ex"
end
local macro_rules | `(tactic| walk_at "cl") => `(tactic| exact bent_r (by first | assumption | omega) (by first | assumption | omega) (by assumption))

abbrev s_ordered : Stmt := topS 25
theorem s_ordered_sc : FnScope ["corners", "places", "at", "x", "y", "start"] ["corners"] (defScope s_ordered) := ⟨rfl, rfl, rfl, by decide +kernel, rfl, by decide +kernel, by decide +kernel⟩
theorem cut_drop {ds : List D} {s : Nat} (h : s ≤ ds.length) : cutD ds (some (s : Int)) none = ds.drop s := by
  unfold cutD
  rw [HT.sIx_nat, HT.sIx_none, Nat.min_eq_left h]
  exact List.take_of_length_le (by rw [List.length_drop]; exact Nat.le_refl _)
theorem cut_take {ds : List D} {s : Nat} (h : s ≤ ds.length) : cutD ds none (some (s : Int)) = ds.take s := by
  unfold cutD
  rw [HT.sIx_nat, HT.sIx_none, Nat.min_eq_left h]
  rfl
def ROrd (ds : List D) (o : Out) : Prop := ∃ (L : List P3) (v : Int), 0 < v ∧ Bd v 3000 ∧ L.length ≤ 1000 ∧ (∀ p ∈ L, okP v p) ∧ (∀ p ∈ plI L, b2 p) ∧ ds = [.lst (L.map pt3)] ∧
  (((L.length = 0 ∨ 64 < L.length) ∧ o = .err 3 [("count", .int L.length)]) ∨
   (L.length ≤ 64 ∧ ∃ i, i < L.length ∧ bentI (plI L) i = true ∧ (∀ j < i, bentI (plI L) j = false) ∧ o = .err 4 [("at", .int i)]) ∨
   (1 ≤ L.length ∧ L.length ≤ 64 ∧ (∀ i < L.length, bentI (plI L) i = false) ∧ ∃ s p, (plI L)[s]? = some p ∧ (∀ m < s, (plI L)[m]? ≠ some p) ∧ (∀ q ∈ plI L, ¬ plt (sw q) (sw p)) ∧ o = .ok (.lst ((L.drop s ++ L.take s).map pt3))))
def ROrdN (ds : List D) (o : Out) : Prop := ∃ (L : List P3) (v : Int), 0 < v ∧ Bd v 3000 ∧ L.length ≤ 1000 ∧ (∀ p ∈ L, okP v p) ∧ (∀ p ∈ plI L, b2 p) ∧ ds = [.lst (L.map pt3)] ∧
  (((L.length = 0 ∨ 64 < L.length) ∧ o = .err 3 [("count", .int L.length)]) ∨
   (L.length ≤ 64 ∧ ∃ i, i < L.length ∧ bentI (plI L) i = true ∧ (∀ j < i, bentI (plI L) j = false) ∧ o = .err 4 [("at", .int i)]) ∨
   (1 ≤ L.length ∧ L.length ≤ 64 ∧ (∀ i < L.length, bentI (plI L) i = false) ∧ ∃ s p, (plI L)[s]? = some p ∧ (∀ m < s, (plI L)[m]? ≠ some p) ∧ (∀ q ∈ plI L, ¬ plt (sw q) (sw p)) ∧ o = .new (.lst ((L.drop s ++ L.take s).map pt3))))
theorem ordN_of {ds : List D} {d : D} (h : ROrd ds (.ok d)) : ROrdN ds (.new d) := by
  obtain ⟨L, v, h1, h2, h3, h4, h5, h6, h⟩ := h
  rcases h with ⟨_, z⟩ | ⟨_, i, _, _, _, z⟩ | ⟨a, b, c, s, p, e1, e2, e3, z⟩
  · cases z
  · cases z
  · cases z
    exact ⟨L, v, h1, h2, h3, h4, h5, h6, .inr (.inr ⟨a, b, c, s, p, e1, e2, e3, rfl⟩)⟩
/-- the class of pens: its constant -/
structure PenM (W : Wd) (S : Sg) : Prop where
  gP : W.mg "Pen" = some (.ref (S.cO 0))
  rd : ∃ mc u, ClX.CRead W.K (S.cO 0) mc ∧ ClX.CVal W.K (S.cO 0) mc "MOST" (.int 64) u
theorem reads_of {K : PySem.W.Frag} {C : Addr} (h1 : PySem.W.nsIn K cStatics "thirdparty.any" = some none) (h2 : PySem.W.typeIn K (.ref C) = some (.type "type")) (h3 : PySem.W.findIn K (.type "type") "__getattribute__" = some (some (.builtin "type.__getattribute__"))) (h4 : PySem.W.subIn K (.type "type") (.type "type") = some true) : PySem.W.readsIn K C (.type "type") = true := by
  unfold PySem.W.readsIn
  rw [h1, h2, h3, h4]
  rfl
theorem cval_int {K : PySem.W.Frag} {C : Addr} {f : Str} {n : Int} {t : Tok} (h1 : PySem.W.findIn K (.type "type") f = some none) (h2 : PySem.W.findIn K (.ref C) f = some (some (.int n t))) : PySem.W.findCls K (.ref C) (.type "type") f = some (.val (.int n t)) := by
  unfold PySem.W.findCls
  rw [h1, h2]
  rfl
theorem most_of {W : Wd} {S : Sg} {t : Tok} (g : W.mg "Pen" = some (.ref (S.cO 0))) (h1 : PySem.W.nsIn W.K cStatics "thirdparty.any" = some none) (h2 : PySem.W.typeIn W.K (.ref (S.cO 0)) = some (.type "type")) (h3 : PySem.W.findIn W.K (.type "type") "__getattribute__" = some (some (.builtin "type.__getattribute__"))) (h4 : PySem.W.subIn W.K (.type "type") (.type "type") = some true)
    (h5 : PySem.W.specialIn W.K (.ref (S.cO 0)) "__getattribute__" = some (some (.builtin "type.__getattribute__"))) (h6 : PySem.W.findIn W.K (.type "type") "MOST" = some none) (h7 : PySem.W.findIn W.K (.ref (S.cO 0)) "MOST" = some (some (.int 64 t))) : PenM W S :=
  ⟨g, .type "type", .int 64 t, ⟨reads_of h1 h2 h3 h4, h5⟩, ⟨cval_int h6 h7, ⟨t, rfl⟩⟩⟩
theorem e_most {X : Cx} {W : Wd} {S : Sg} {g : En} {p pos : Pos} (C : Kb X W S) (PM : PenM W S) (G : Ng X "Pen") (hb : attributeBase (.Name "Pen" p) "MOST" X.env (eval (.Name "Pen" p) X.env) = eval (.Name "Pen" p) X.env := by rfl) : Fw.XE X S g (.Attribute (.Name "Pen" p) "MOST" pos) (.int 64) := by
  obtain ⟨mc, u, h1, h2⟩ := PM.rd
  exact e_cval C G PM.gP h1 h2 (fun _ => .int _) hb
section
variable {W : Wd} {S : Sg}
local macro_rules | `(tactic| walk_at "ex") => `(tactic| exact e_most (by walk_at "kb") (by assumption) (by with_reducible assumption) rfl)
theorem ok_ordered {f : Addr} {fd : FuncData} (F : Fd W.K "ordered" "ordered" s_ordered [] f fd) (hK : W.K = S.K) (T : Mb W) (TP : PtC W S) (PM : PenM W S) (f_placesof : Fn W S 4 "places_of" 1 [] RPlc) (f_isbent : Fn W S 2 "is_bent" 2 [] RBent)
    (E_BadCount : ErrC W S 3 "BadCount" ["count"]) (E_Bent : ErrC W S 4 "Bent" ["at"]) : FnOk W.P W.w W.K W.mg W.base (L2N.CX W.P W.w) 5 f fd ["corners"] (spOf S 1 ROrd) := by
  refine def_ok F hK s_ordered_sc (fun ds o h => by obtain ⟨_, _, _, _, _, _, _, rfl, _⟩ := h; rfl) fun X U ds o b h => ?_
  obtain ⟨L, v, hv, h1, h2, h3, h4, rfl, h⟩ := h
  have C := b.C
  obtain ⟨n_corners, l_corners⟩ := b.nm 0 "corners" rfl (.inl rfl) (by decide) (by decide)
  obtain ⟨n_places, l_places⟩ := b.nm 1 "places" rfl (.inl rfl) (by decide) (by decide)
  obtain ⟨n_at, l_at⟩ := b.nm 2 "at" rfl (.inl rfl) (by decide) (by decide)
  obtain ⟨n_x, l_x⟩ := b.nm 3 "x" rfl (.inl rfl) (by decide) (by decide)
  obtain ⟨n_y, l_y⟩ := b.nm 4 "y" rfl (.inl rfl) (by decide) (by decide)
  obtain ⟨n_start, l_start⟩ := b.nm 5 "start" rfl (.inl rfl) (by decide) (by decide)
  have g_len := b.ng "len" rfl (by decide)
  have m_len := b.mg T.len
  have g_Pen := b.ng "Pen" rfl (by decide)
  have g_BadCount := b.ng "BadCount" rfl (by decide)
  have g_places_of := b.ng "places_of" rfl (by decide)
  have g_range := b.ng "range" rfl (by decide)
  have m_range := b.mg T.range
  have g_is_bent := b.ng "is_bent" rfl (by decide)
  have g_Bent := b.ng "Bent" rfl (by decide)
  have g_min := b.ng "min" rfl (by decide)
  have m_min := b.mg T.min
  change XB _ _ _ [.v (.lst (L.map pt3)), .no, .no, .no, .no, .no] _ _
  have blk : ∀ sc2 own, blkC X.N (defScope s_ordered) sc2 own = true → BlkOk X.N X.env.scope sc2 own := fun sc2 own h => by rw [b.sc]; exact blkOk_by h
  have hlen : (L.map pt3).length = L.length := List.length_map ..
  rcases h with ⟨hc, rfl⟩ | h
  · have hz : (!(decide ((1 : Int) ≤ ((L.map pt3).length : Int)) && decide (((L.map pt3).length : Int) ≤ 64))) = true := by
      rw [hlen]
      rcases hc with hc | hc
      · rw [decide_eq_false (by omega : ¬ (1 : Int) ≤ (L.length : Int))]; rfl
      · rw [decide_eq_false (by omega : ¬ (L.length : Int) ≤ 64)]; simp
    walk_at "ifT"
    rw [← hlen]
    walk_at "rs"
  · have hm : 1 ≤ L.length ∧ L.length ≤ 64 := by
      rcases h with ⟨a, i, b, _⟩ | ⟨a, b, _⟩
      · omega
      · exact ⟨a, b⟩
    have hz : (!(decide ((1 : Int) ≤ ((L.map pt3).length : Int)) && decide (((L.map pt3).length : Int) ≤ 64))) = false := by
      rw [hlen, decide_eq_true (by omega : (1 : Int) ≤ (L.length : Int)), decide_eq_true (by omega : (L.length : Int) ≤ 64)]
      rfl
    walk_at "ifF"
    walk_at "asg"
    have pl : (plI L).length = L.length := by unfold plI; rw [List.length_map]
    have hpl : ((plI L).map pairD).length = L.length := by rw [List.length_map, pl]
    have pl2 : (plI L).length ≤ 1000 := by omega
    generalize hPL : plI L = K at h4 h pl hpl pl2 ⊢
    have hr : -(2 ^ 62) ≤ (((K.map pairD).length : Nat) : Int) ∧ (((K.map pairD).length : Nat) : Int) < 2 ^ 62 := by omega
    rcases h with ⟨_, i, hi, hb, hj, rfl⟩ | ⟨_, _, hb, s, p, hs, hno, hle, rfl⟩
    · refine s_cons (s_for C (i_range1 g_range m_range (a_cons ?xa a_nil) hr) (fun m g => m ≤ i ∧ ∃ k : Sl, g = [.v (.lst (L.map pt3)), .v (.lst (K.map pairD)), k, .no, .no, .no]) ⟨Nat.zero_le _, .no, rfl⟩ ?hs fun g hg => ?hd)
      case xa => walk_at "ex"
      case hd =>
        have := hg.1
        rw [Int.toNat_natCast, hpl] at this
        omega
      case hs =>
        rintro m g hm' ⟨hmi, k, rfl⟩
        rw [Int.toNat_natCast, hpl] at hm'
        refine ⟨_, g_name C.toKb l_at, ?_⟩
        dsimp only [List.set_cons_succ, List.set_cons_zero]
        rw [Int.zero_add]
        have hmk : m < K.length := by omega
        by_cases e : m = i
        · subst e
          have hz2 : bentI K m = true := hb
          walk_at "ifT"
          walk_at "rs"
        · have hz2 : bentI K m = false := hj m (by omega)
          walk_at "ifF"
          exact s_nil ⟨by omega, _, rfl⟩
    · refine s_mid (fun g => ∃ k : Sl, g = [.v (.lst (L.map pt3)), .v (.lst (K.map pairD)), k, .no, .no, .no]) (s_for C (i_range1 g_range m_range (a_cons ?xa a_nil) hr) (fun m g => ∃ k : Sl, g = [.v (.lst (L.map pt3)), .v (.lst (K.map pairD)), k, .no, .no, .no]) ⟨.no, rfl⟩ ?hs fun g hg => hg) ?hn
      case xa => walk_at "ex"
      case hs =>
        rintro m g hm' ⟨k, rfl⟩
        rw [Int.toNat_natCast, hpl] at hm'
        refine ⟨_, g_name C.toKb l_at, ?_⟩
        dsimp only [List.set_cons_succ, List.set_cons_zero]
        rw [Int.zero_add]
        have hmk : m < K.length := by omega
        have hz2 : bentI K m = false := hb m (by omega)
        walk_at "ifF"
        exact s_nil ⟨_, rfl⟩
      case hn =>
        rintro g ⟨k, rfl⟩
        have hpm : p ∈ K := List.mem_of_getElem? hs
        refine' s_cons (s_asgT (d := pairD (sw p)) ?x1 (g_tup C (gs_cons (g_name C.toKb l_y) (gs_cons (g_name C.toKb l_x) gs_nil))) ?k1)
        case x1 =>
          refine' e_callB (k_minP (k := 4) (ps := K.map sw) (m := sw p) C (List.mem_map.mpr ⟨p, hpm, rfl⟩) (fun q hq => by
            obtain ⟨r, hr, rfl⟩ := List.mem_map.mp hq
            exact hle r hr)) g_min m_min PyProof.Rows.Boot.«min» (a_cons (XE.is (n_e (lc_map2 (l := K) (f := fun p => pairD (sw p)) (x := "x") (x2 := "y") (ix := 3) (ix2 := 4) C (by omega) (e_var n_places rfl) (blk _ _ (by rw [b.N]; rfl)) (by rw [b.N]; rfl) rfl (by rw [b.N]; rfl) rfl ?hel)) ?y2) a_nil)
          case y2 => rw [List.map_map]; rfl
          case hel =>
            intro X' bk q hq
            have C' := bk.C
            have n_x' := bk.own 3 "x" (by rw [b.N]; rfl) rfl (by decide) (by decide)
            have n_y' := bk.own 4 "y" (by rw [b.N]; rfl) rfl (by decide) (by decide)
            change Fw.XE X' S [.v (.lst (L.map pt3)), .v (.lst (K.map pairD)), k, .v (.int q.1), .v (.int q.2), .no] _ (.tup [.int q.2, .int q.1])
            walk_at "ex"
        dsimp only [List.set_cons_succ, List.set_cons_zero]
        refine' s_cons (s_asg C.toKb l_start (d := .int s) (e_indexP C (ps := K) (q := p) (e_var n_places rfl) ?x3 (by omega) hs hno) ?k2)
        case x3 =>
          change Fw.XE X S [.v (.lst (L.map pt3)), .v (.lst (K.map pairD)), k, .v (.int p.1), .v (.int p.2), .no] _ (.tup [.int p.1, .int p.2])
          walk_at "ex"
        dsimp only [List.set_cons_succ, List.set_cons_zero]
        have hs1 : s ≤ (L.map pt3).length := by
          have := (List.getElem?_eq_some_iff.mp hs).1
          omega
        refine' s_cons (s_ret (n_e (n_lst (a_star C.toKb (n_e (n_cut C.toKb (e_var n_corners rfl) (o_some (e_var n_start rfl)) o_none)) (a_star C.toKb (n_e (n_cut C.toKb (e_var n_corners rfl) o_none (o_some (e_var n_start rfl)))) a_nil)) ?z)) ?k3)
        case z =>
          rw [cut_drop hs1, cut_take hs1, List.append_nil, List.length_append, List.length_drop, List.length_take]
          omega
        case k3 =>
          show D.lst _ = D.lst _
          rw [cut_drop hs1, cut_take hs1, List.append_nil, List.map_append, List.map_drop, List.map_take]
end

section
variable {W : Wd} {S : Sg}
local macro_rules | `(tactic| walk_at "ex") => `(tactic| exact e_most (by walk_at "kb") (by assumption) (by with_reducible assumption) rfl)
theorem ok_orderedN {f : Addr} {fd : FuncData} (F : Fd W.K "ordered" "ordered" s_ordered [] f fd) (hK : W.K = S.K) (T : Mb W) (TP : PtC W S) (PM : PenM W S) (f_placesof : Fn W S 4 "places_of" 1 [] RPlc) (f_isbent : Fn W S 2 "is_bent" 2 [] RBent)
    (E_BadCount : ErrC W S 3 "BadCount" ["count"]) (E_Bent : ErrC W S 4 "Bent" ["at"]) : FnOk W.P W.w W.K W.mg W.base (L2N.CX W.P W.w) 5 f fd ["corners"] (spOf S 1 ROrdN) := by
  refine def_ok F hK s_ordered_sc (fun ds o h => by obtain ⟨_, _, _, _, _, _, _, rfl, _⟩ := h; rfl) fun X U ds o b h => ?_
  obtain ⟨L, v, hv, h1, h2, h3, h4, rfl, h⟩ := h
  have C := b.C
  obtain ⟨n_corners, l_corners⟩ := b.nm 0 "corners" rfl (.inl rfl) (by decide) (by decide)
  obtain ⟨n_places, l_places⟩ := b.nm 1 "places" rfl (.inl rfl) (by decide) (by decide)
  obtain ⟨n_at, l_at⟩ := b.nm 2 "at" rfl (.inl rfl) (by decide) (by decide)
  obtain ⟨n_x, l_x⟩ := b.nm 3 "x" rfl (.inl rfl) (by decide) (by decide)
  obtain ⟨n_y, l_y⟩ := b.nm 4 "y" rfl (.inl rfl) (by decide) (by decide)
  obtain ⟨n_start, l_start⟩ := b.nm 5 "start" rfl (.inl rfl) (by decide) (by decide)
  have g_len := b.ng "len" rfl (by decide)
  have m_len := b.mg T.len
  have g_Pen := b.ng "Pen" rfl (by decide)
  have g_BadCount := b.ng "BadCount" rfl (by decide)
  have g_places_of := b.ng "places_of" rfl (by decide)
  have g_range := b.ng "range" rfl (by decide)
  have m_range := b.mg T.range
  have g_is_bent := b.ng "is_bent" rfl (by decide)
  have g_Bent := b.ng "Bent" rfl (by decide)
  have g_min := b.ng "min" rfl (by decide)
  have m_min := b.mg T.min
  change XB _ _ _ [.v (.lst (L.map pt3)), .no, .no, .no, .no, .no] _ _
  have blk : ∀ sc2 own, blkC X.N (defScope s_ordered) sc2 own = true → BlkOk X.N X.env.scope sc2 own := fun sc2 own h => by rw [b.sc]; exact blkOk_by h
  have hlen : (L.map pt3).length = L.length := List.length_map ..
  rcases h with ⟨hc, rfl⟩ | h
  · have hz : (!(decide ((1 : Int) ≤ ((L.map pt3).length : Int)) && decide (((L.map pt3).length : Int) ≤ 64))) = true := by
      rw [hlen]
      rcases hc with hc | hc
      · rw [decide_eq_false (by omega : ¬ (1 : Int) ≤ (L.length : Int))]; rfl
      · rw [decide_eq_false (by omega : ¬ (L.length : Int) ≤ 64)]; simp
    walk_at "ifT"
    rw [← hlen]
    walk_at "rs"
  · have hm : 1 ≤ L.length ∧ L.length ≤ 64 := by
      rcases h with ⟨a, i, b, _⟩ | ⟨a, b, _⟩
      · omega
      · exact ⟨a, b⟩
    have hz : (!(decide ((1 : Int) ≤ ((L.map pt3).length : Int)) && decide (((L.map pt3).length : Int) ≤ 64))) = false := by
      rw [hlen, decide_eq_true (by omega : (1 : Int) ≤ (L.length : Int)), decide_eq_true (by omega : (L.length : Int) ≤ 64)]
      rfl
    walk_at "ifF"
    walk_at "asg"
    have pl : (plI L).length = L.length := by unfold plI; rw [List.length_map]
    have hpl : ((plI L).map pairD).length = L.length := by rw [List.length_map, pl]
    have pl2 : (plI L).length ≤ 1000 := by omega
    generalize hPL : plI L = K at h4 h pl hpl pl2 ⊢
    have hr : -(2 ^ 62) ≤ (((K.map pairD).length : Nat) : Int) ∧ (((K.map pairD).length : Nat) : Int) < 2 ^ 62 := by omega
    rcases h with ⟨_, i, hi, hb, hj, rfl⟩ | ⟨_, _, hb, s, p, hs, hno, hle, rfl⟩
    · refine s_cons (s_for C (i_range1 g_range m_range (a_cons ?xa a_nil) hr) (fun m g => m ≤ i ∧ ∃ k : Sl, g = [.v (.lst (L.map pt3)), .v (.lst (K.map pairD)), k, .no, .no, .no]) ⟨Nat.zero_le _, .no, rfl⟩ ?hs fun g hg => ?hd)
      case xa => walk_at "ex"
      case hd =>
        have := hg.1
        rw [Int.toNat_natCast, hpl] at this
        omega
      case hs =>
        rintro m g hm' ⟨hmi, k, rfl⟩
        rw [Int.toNat_natCast, hpl] at hm'
        refine ⟨_, g_name C.toKb l_at, ?_⟩
        dsimp only [List.set_cons_succ, List.set_cons_zero]
        rw [Int.zero_add]
        have hmk : m < K.length := by omega
        by_cases e : m = i
        · subst e
          have hz2 : bentI K m = true := hb
          walk_at "ifT"
          walk_at "rs"
        · have hz2 : bentI K m = false := hj m (by omega)
          walk_at "ifF"
          exact s_nil ⟨by omega, _, rfl⟩
    · refine s_mid (fun g => ∃ k : Sl, g = [.v (.lst (L.map pt3)), .v (.lst (K.map pairD)), k, .no, .no, .no]) (s_for C (i_range1 g_range m_range (a_cons ?xa a_nil) hr) (fun m g => ∃ k : Sl, g = [.v (.lst (L.map pt3)), .v (.lst (K.map pairD)), k, .no, .no, .no]) ⟨.no, rfl⟩ ?hs fun g hg => hg) ?hn
      case xa => walk_at "ex"
      case hs =>
        rintro m g hm' ⟨k, rfl⟩
        rw [Int.toNat_natCast, hpl] at hm'
        refine ⟨_, g_name C.toKb l_at, ?_⟩
        dsimp only [List.set_cons_succ, List.set_cons_zero]
        rw [Int.zero_add]
        have hmk : m < K.length := by omega
        have hz2 : bentI K m = false := hb m (by omega)
        walk_at "ifF"
        exact s_nil ⟨_, rfl⟩
      case hn =>
        rintro g ⟨k, rfl⟩
        have hpm : p ∈ K := List.mem_of_getElem? hs
        refine' s_cons (s_asgT (d := pairD (sw p)) ?x1 (g_tup C (gs_cons (g_name C.toKb l_y) (gs_cons (g_name C.toKb l_x) gs_nil))) ?k1)
        case x1 =>
          refine' e_callB (k_minP (k := 4) (ps := K.map sw) (m := sw p) C (List.mem_map.mpr ⟨p, hpm, rfl⟩) (fun q hq => by
            obtain ⟨r, hr, rfl⟩ := List.mem_map.mp hq
            exact hle r hr)) g_min m_min PyProof.Rows.Boot.«min» (a_cons (XE.is (n_e (lc_map2 (l := K) (f := fun p => pairD (sw p)) (x := "x") (x2 := "y") (ix := 3) (ix2 := 4) C (by omega) (e_var n_places rfl) (blk _ _ (by rw [b.N]; rfl)) (by rw [b.N]; rfl) rfl (by rw [b.N]; rfl) rfl ?hel)) ?y2) a_nil)
          case y2 => rw [List.map_map]; rfl
          case hel =>
            intro X' bk q hq
            have C' := bk.C
            have n_x' := bk.own 3 "x" (by rw [b.N]; rfl) rfl (by decide) (by decide)
            have n_y' := bk.own 4 "y" (by rw [b.N]; rfl) rfl (by decide) (by decide)
            change Fw.XE X' S [.v (.lst (L.map pt3)), .v (.lst (K.map pairD)), k, .v (.int q.1), .v (.int q.2), .no] _ (.tup [.int q.2, .int q.1])
            walk_at "ex"
        dsimp only [List.set_cons_succ, List.set_cons_zero]
        refine' s_cons (s_asg C.toKb l_start (d := .int s) (e_indexP C (ps := K) (q := p) (e_var n_places rfl) ?x3 (by omega) hs hno) ?k2)
        case x3 =>
          change Fw.XE X S [.v (.lst (L.map pt3)), .v (.lst (K.map pairD)), k, .v (.int p.1), .v (.int p.2), .no] _ (.tup [.int p.1, .int p.2])
          walk_at "ex"
        dsimp only [List.set_cons_succ, List.set_cons_zero]
        have hs1 : s ≤ (L.map pt3).length := by
          have := (List.getElem?_eq_some_iff.mp hs).1
          omega
        refine' s_cons (s_retF (f_n (n_lst (a_star C.toKb (n_e (n_cut C.toKb (e_var n_corners rfl) (o_some (e_var n_start rfl)) o_none)) (a_star C.toKb (n_e (n_cut C.toKb (e_var n_corners rfl) o_none (o_some (e_var n_start rfl)))) a_nil)) ?z)) ?k3)
        case z =>
          rw [cut_drop hs1, cut_take hs1, List.append_nil, List.length_append, List.length_drop, List.length_take]
          omega
        case k3 =>
          show D.lst _ = D.lst _
          rw [cut_drop hs1, cut_take hs1, List.append_nil, List.map_append, List.map_drop, List.map_take]
end

/-! ### the polygon's corners as a list, turned to begin anywhere -/
theorem inc_nodup {l : List PI2} (h : Inc l) : l.Nodup := h.imp fun {a b} k e => by subst e; exact ylt_ir k
theorem dec_nodup {l : List PI2} (h : Dec l) : l.Nodup := h.imp fun {a b} k e => by subst e; exact ylt_ir k
theorem half_nodup {l : List PI2} (hs : Inc l) (hne : l ≠ []) : (halfH l).Nodup := by
  unfold halfH
  exact (List.reverse_perm _).nodup_iff.mpr (dec_nodup (half_of hs hne).1.dec)
theorem drop_ne_last {L : List PI2} {p x : PI2} (hn : L.Nodup) (hl : L.getLast? = some p) (hx : x ∈ L.dropLast) : x ≠ p := fun e => by
  have := last_split hl
  rw [this] at hn
  exact (List.nodup_append.mp hn).2.2 x hx p List.mem_cons_self e
theorem back_ne {l : List PI2} (hne : l ≠ []) : back l ≠ [] := fun z => by
  have := congrArg List.length z
  unfold back at this
  simp at this
  exact hne this
theorem half_nodup2 {l : List PI2} (hs : Inc l) (hne : l ≠ []) : (halfH l.reverse).Nodup := by
  have h := half_nodup (back_inc hs) (back_ne hne)
  rw [half_back] at h
  exact List.Pairwise.of_map ng (fun a b (k : ng a ≠ ng b) e => k (by rw [e])) h
theorem back_ends {l : List PI2} {p0 pn : PI2} (h0 : l.head? = some p0) (hn : l.getLast? = some pn) : (back l).head? = some (ng pn) ∧ (back l).getLast? = some (ng p0) := by
  unfold back
  rw [List.head?_map, List.head?_reverse, hn, List.getLast?_map, List.getLast?_reverse, h0]
  exact ⟨rfl, rfl⟩
theorem hull_nodup {l : List PI2} (hs : Inc l) (hne : l ≠ []) : (hullS l).Nodup := by
  unfold hullS
  by_cases h1 : l.length = 1
  · rw [if_pos h1]
    exact inc_nodup hs
  · rw [if_neg h1]
    cases h0 : l.head? with
    | none => exact absurd (List.head?_eq_none_iff.mp h0) hne
    | some p0 =>
      cases hn : l.getLast? with
      | none => exact absurd (List.getLast?_eq_none_iff.mp hn) hne
      | some pn =>
        obtain ⟨u1, u2⟩ := half_ends hs hne
        obtain ⟨d1, d2⟩ := half_ends2 hs hne h0 hn
        rw [hn] at u2
        have n1 := half_nodup hs hne
        have n2 := half_nodup2 hs hne
        refine List.nodup_append.mpr ⟨n1.sublist (List.dropLast_sublist _), n2.sublist (List.dropLast_sublist _), fun x hx y hy e => ?_⟩
        subst e
        have xn := drop_ne_last n1 u2 hx
        have x0 := drop_ne_last n2 d2 hy
        have hx' := List.dropLast_subset _ hx
        have hy' := List.dropLast_subset _ hy
        have k1 := other_side hs h0 hn hy' x0 xn
        obtain ⟨b1, b2⟩ := back_ends h0 hn
        have hb : ng x ∈ halfH (back l).reverse := by
          have e1 : (back l).reverse = l.map ng := by unfold back; rw [← List.map_reverse, List.reverse_reverse]
          rw [e1]
          unfold halfH at hx' ⊢
          rw [halfR_ng, ← List.map_reverse]
          exact List.mem_map.mpr ⟨x, hx', rfl⟩
        have k2 := other_side (back_inc hs) b1 b2 hb (fun z => xn (ng_inj z)) (fun z => x0 (ng_inj z))
        rw [turn_ng, turn_swap] at k2
        omega
theorem hull_len {l : List PI2} : (hullS l).length ≤ 2 * l.length := by
  have a1 := halfR_len _ l rfl
  have a2 := halfR_len _ l.reverse rfl
  rw [List.length_reverse] at a2
  unfold hullS halfH
  split
  · omega
  · rw [List.length_append, List.length_dropLast, List.length_dropLast, List.length_reverse, List.length_reverse]
    omega
theorem hull_sub {l : List PI2} : ∀ x ∈ hullS l, x ∈ l := fun x hx => by
  unfold hullS halfH at hx
  split at hx
  · exact hx
  · rcases List.mem_append.mp hx with z | z
    · exact halfR_mem (List.mem_reverse.mp (List.dropLast_subset _ z))
    · exact List.mem_reverse.mp (halfR_mem (List.mem_reverse.mp (List.dropLast_subset _ z)))
/-- a list of corners, from its least one on -/
structure Ring (C : List PI2) (p0 : PI2) : Prop where
  head : C.head? = some p0
  nd : C.Nodup
  low : ∀ x ∈ C, x = p0 ∨ ylt p0 x
  str : ∀ a b, Nb (C ++ [p0]) a b → ∀ x ∈ C, x = a ∨ x = b ∨ 0 < turnI a b x
theorem hull_ring {l : List PI2} (hs : Inc l) (hne : l ≠ []) : ∃ p0, Ring (hullS l) p0 := by
  cases h0 : l.head? with
  | none => exact absurd (List.head?_eq_none_iff.mp h0) hne
  | some p0 =>
    by_cases h1 : l.length = 1
    · obtain ⟨p, rfl⟩ := List.length_eq_one_iff.mp h1
      have e : hullS [p] = [p] := rfl
      rw [e]
      refine ⟨p, rfl, List.nodup_cons.mpr ⟨by simp, List.nodup_nil⟩, fun x hx => .inl (List.mem_singleton.mp hx), fun a b h x hx => ?_⟩
      obtain ⟨u, v, e⟩ := h
      have ha : a ∈ [p] ++ [p] := by rw [e]; simp
      have : a = p := by simpa using ha
      exact .inl (by rw [List.mem_singleton.mp hx, this])
    · have h2 : 2 ≤ l.length := by
        have : 0 < l.length := List.length_pos_iff.mpr hne
        omega
      have P := hull_poly hs h0 h2
      exact ⟨p0, P.head, hull_nodup hs hne, fun x hx => P.low x (P.sub x hx), P.strict⟩
/-- C, begun at its k-th corner -/
def rot (C : List PI2) (k : Nat) : List PI2 := C.drop k ++ C.take k
theorem rot_len {C : List PI2} {k : Nat} (h : k < C.length) : (rot C k).length = C.length := by
  unfold rot
  rw [List.length_append, List.length_drop, List.length_take]
  omega
theorem rot_mem {C : List PI2} {k : Nat} {x : PI2} : x ∈ rot C k ↔ x ∈ C := by
  unfold rot
  rw [List.mem_append, Or.comm, ← List.mem_append, List.take_append_drop]
theorem rot_nodup {C : List PI2} {k : Nat} (h : C.Nodup) : (rot C k).Nodup := by
  unfold rot
  refine (List.perm_append_comm).nodup_iff.mp ?_
  rw [List.take_append_drop]
  exact h
theorem rot_get {C : List PI2} {k i : Nat} (h : k < C.length) (hi : i < C.length) : (rot C k)[i]? = C[(i + k) % C.length]? := by
  unfold rot
  by_cases z : i < C.length - k
  · rw [List.getElem?_append_left (by rw [List.length_drop]; exact z), List.getElem?_drop, Nat.mod_eq_of_lt (by omega), Nat.add_comm]
  · have e : (i + k) % C.length = i + k - C.length := by
      rw [Nat.mod_eq_sub_mod (by omega), Nat.mod_eq_of_lt (by omega)]
    rw [List.getElem?_append_right (by rw [List.length_drop]; omega), List.length_drop, List.getElem?_take, if_pos (by omega), e]
    congr 1
    omega
theorem atP_get {C : List PI2} {i : Nat} (h : i < C.length) : C[i]? = some (atP C i) := by
  unfold atP
  rw [List.getD_eq_getElem?_getD, List.getElem?_eq_getElem h]
  rfl
theorem atP_inj {C : List PI2} (hn : C.Nodup) {i j : Nat} (hi : i < C.length) (hj : j < C.length) (e : atP C i = atP C j) : i = j := by
  have h1 := atP_get hi
  have h2 := atP_get hj
  rw [← e] at h2
  rw [List.getElem?_eq_getElem hi] at h1
  rw [List.getElem?_eq_getElem hj] at h2
  exact (List.getElem_inj hn).mp ((Option.some.inj h1).trans (Option.some.inj h2).symm)
theorem edge_nb {C : List PI2} {p0 : PI2} (h0 : C.head? = some p0) {r : Nat} (hr : r < C.length) : Nb (C ++ [p0]) (atP C r) (atP C ((r + 1) % C.length)) := by
  have ht : C = C.take r ++ atP C r :: C.drop (r + 1) := by
    have e1 : C.drop r = C[r] :: C.drop (r + 1) := List.drop_eq_getElem_cons hr
    have e2 := atP_get hr
    rw [List.getElem?_eq_getElem hr] at e2
    rw [← Option.some.inj e2, ← e1, List.take_append_drop]
  by_cases z : r + 1 < C.length
  · rw [Nat.mod_eq_of_lt z]
    have e1 : C.drop (r + 1) = C[r + 1] :: C.drop (r + 2) := List.drop_eq_getElem_cons z
    have e2 := atP_get z
    rw [List.getElem?_eq_getElem z] at e2
    refine ⟨C.take r, C.drop (r + 2) ++ [p0], ?_⟩
    conv => lhs; rw [ht]
    rw [e1, Option.some.inj e2]
    simp
  · have e : r + 1 = C.length := by omega
    rw [e, Nat.mod_self]
    have ep : atP C 0 = p0 := by
      have h2 := atP_get (C := C) (i := 0) (by omega)
      rw [← List.head?_eq_getElem?, h0] at h2
      exact (Option.some.inj h2).symm
    have ed : C.drop (r + 1) = [] := List.drop_of_length_le (by omega)
    rw [ed] at ht
    refine ⟨C.take r, [], ?_⟩
    conv => lhs; rw [ht]
    rw [ep]
    simp
theorem bent_false {C : List PI2} {i : Nat} (hi : i < C.length) (h : nxtI C i = i ∨ (atP C i ≠ atP C (nxtI C i) ∧ ∀ m < C.length, m ≠ i → m ≠ nxtI C i → 0 < turnI (atP C i) (atP C (nxtI C i)) (atP C m))) : bentI C i = false := by
  unfold bentI
  by_cases z : nxtI C i = i
  · rw [if_pos z]
  · rw [if_neg z]
    obtain ⟨h1, h2⟩ := h.resolve_left z
    rw [decide_eq_false h1, Bool.false_or, List.any_eq_false]
    intro x hx
    obtain ⟨p, hp, rfl⟩ := List.mem_map.mp hx
    unfold othI at hp
    obtain ⟨m, hm, rfl⟩ := List.mem_map.mp hp
    obtain ⟨m1, m2⟩ := List.mem_filter.mp hm
    rw [Bool.and_eq_true, decide_eq_true_eq, decide_eq_true_eq] at m2
    have := h2 m (List.mem_range.mp m1) m2.1 m2.2
    show ¬ (decide _ = true)
    rw [decide_eq_true_eq]
    omega
theorem ring_bent {C : List PI2} {p0 : PI2} (R : Ring C p0) {k : Nat} (hk : k < C.length) : ∀ i < (rot C k).length, bentI (rot C k) i = false := fun i hi => by
  have hl := rot_len hk
  refine bent_false hi ?_
  by_cases z : nxtI (rot C k) i = i
  · exact .inl z
  · right
    have hn := rot_nodup (k := k) R.nd
    rw [hl] at hi
    have hj : nxtI (rot C k) i < C.length := by
      unfold nxtI
      rw [hl]
      exact Nat.mod_lt _ (by omega)
    have ej : nxtI (rot C k) i = (i + 1) % C.length := by unfold nxtI; rw [hl]
    have at_ : ∀ m < C.length, atP (rot C k) m = atP C ((m + k) % C.length) := fun m hm => by
      have a1 := rot_get hk hm
      rw [atP_get (C := rot C k) (by omega), atP_get (C := C) (Nat.mod_lt _ (by omega))] at a1
      exact Option.some.inj a1
    have e2 : (nxtI (rot C k) i + k) % C.length = ((i + k) % C.length + 1) % C.length := by
      rw [ej]
      have x1 : ((i + 1) % C.length + k) % C.length = (i + 1 + k) % C.length := by rw [Nat.mod_add_mod]
      have x2 : ((i + k) % C.length + 1) % C.length = (i + k + 1) % C.length := by rw [Nat.mod_add_mod]
      rw [x1, x2]
      congr 1
      omega
    have nb := edge_nb R.head (r := (i + k) % C.length) (Nat.mod_lt _ (by omega))
    rw [← e2, ← at_ i hi, ← at_ _ hj] at nb
    refine ⟨fun e => z (atP_inj hn (by omega) (by omega) e).symm, fun m hm hm1 hm2 => ?_⟩
    rw [hl] at hm
    have hx : atP (rot C k) m ∈ C := rot_mem.mp (List.mem_of_getElem? (atP_get (by omega)))
    rcases R.str _ _ nb _ hx with w | w | w
    · exact absurd (atP_inj hn (by omega) (by omega) w) hm1
    · exact absurd (atP_inj hn (by omega) (by omega) w) hm2
    · exact w
/-- where the least corner stands -/
theorem ring_start {C : List PI2} {p0 : PI2} (R : Ring C p0) {k : Nat} (hk : k < C.length) : ∃ s, s ≤ C.length ∧ (rot C k)[s]? = some p0 ∧ (∀ m < s, (rot C k)[m]? ≠ some p0) ∧ ((∀ q ∈ rot C k, ¬ plt (sw q) (sw p0))) ∧ ∀ {α : Type} (f : PI2 → α), ((rot C k).map f).drop s ++ ((rot C k).map f).take s = C.map f := by
  have hl := rot_len hk
  have hlow : ∀ q ∈ rot C k, ¬ plt (sw q) (sw p0) := fun q hq h => by
    have h' : ylt q p0 := h
    rcases R.low q (rot_mem.mp hq) with z | z
    · rw [z] at h'
      exact ylt_ir h'
    · exact ylt_ir (ylt_tr h' z)
  have key : ∀ s, s < C.length → (rot C k)[s]? = some p0 → ∀ m < s, (rot C k)[m]? ≠ some p0 := fun s hs h1 m hm h2 => by
    rw [atP_get (by omega)] at h1 h2
    have := atP_inj (rot_nodup (k := k) R.nd) (i := s) (j := m) (by omega) (by omega) ((Option.some.inj h1).trans (Option.some.inj h2).symm)
    omega
  by_cases z : k = 0
  · subst z
    have e : rot C 0 = C := by unfold rot; simp
    have h1 : (rot C 0)[0]? = some p0 := by rw [e, ← List.head?_eq_getElem?]; exact R.head
    exact ⟨0, Nat.zero_le _, h1, key 0 hk h1, hlow, fun f => by rw [e]; simp⟩
  · have h1 : (rot C k)[C.length - k]? = some p0 := by
      rw [rot_get hk (by omega)]
      have : (C.length - k + k) % C.length = 0 := by rw [Nat.sub_add_cancel (by omega), Nat.mod_self]
      rw [this, ← List.head?_eq_getElem?]
      exact R.head
    refine ⟨C.length - k, by omega, h1, key _ (by omega) h1, hlow, fun f => ?_⟩
    unfold rot
    rw [List.map_append, List.drop_left' (by rw [List.length_map, List.length_drop]), List.take_left' (by rw [List.length_map, List.length_drop]), ← List.map_append, List.take_append_drop]

/-! ### points over one denominator, and their common places -/
def n3 (v : Int) (p : PI2) : P3 := (p.1 / g3 p.1 p.2 v, p.2 / g3 p.1 p.2 v, v / g3 p.1 p.2 v)
def nP (v : Int) (p : PI2) : D := normP p.1 p.2 v
theorem pts_n {C : List PI2} {v : Int} : (C.map (n3 v)).map pt3 = C.map (nP v) := by rw [List.map_map]; rfl
def scl (t : Int) (p : PI2) : PI2 := (p.1 / t, p.2 / t)
theorem n3_over {v : Int} {p : PI2} (hv : 0 < v) : 0 < (n3 v p).2.2 ∧ (n3 v p).2.2 ∣ v ∧ (n3 v p).2.2 * g3 p.1 p.2 v = v := by
  have e := div_g (g3_dvd (x := p.1) (y := p.2) (v := v)).2.2
  have hg := g3_pos (x := p.1) (y := p.2) hv
  refine ⟨?_, ⟨g3 p.1 p.2 v, e.symm⟩, e⟩
  show 0 < v / g3 p.1 p.2 v
  rcases Int.lt_or_le 0 (v / g3 p.1 p.2 v) with z | z
  · exact z
  · have : v / g3 p.1 p.2 v * g3 p.1 p.2 v ≤ 0 := Int.mul_nonpos_of_nonpos_of_nonneg z (by omega)
    omega
theorem ok_n3 {v : Int} {p : PI2} (hv : 0 < v) (h : b2 p) : okP v (n3 v p) := by
  obtain ⟨h1, h2, _⟩ := n3_over (p := p) hv
  obtain ⟨b1, b2'⟩ := h
  have i1 : Bd (p.1 / g3 p.1 p.2 v) 300 := inferInstance
  have i2 : Bd (p.2 / g3 p.1 p.2 v) 300 := inferInstance
  exact ⟨h1, h2, ⟨i1.up (by decide)⟩, ⟨i2.up (by decide)⟩⟩
theorem okV_n {v : Int} (hv : 0 < v) {C : List PI2} (h : ∀ p ∈ C, b2 p) : ∀ q ∈ C.map (n3 v), okP v q := fun q hq => by
  obtain ⟨p, hp, rfl⟩ := List.mem_map.mp hq
  exact ok_n3 hv (h p hp)
theorem pl_norm {C : List PI2} {v : Int} (hv : 0 < v) (h : ∀ p ∈ C, b2 p) : ∃ t, 0 < t ∧ v = t * covI (C.map (n3 v)) ∧ (∀ p ∈ C, p.1 = t * (scl t p).1 ∧ p.2 = t * (scl t p).2) ∧ plI (C.map (n3 v)) = C.map (scl t) := by
  obtain ⟨c1, c2, c3⟩ := cov_law hv _ (C.map (n3 v)) rfl (okV_n hv h)
  unfold plI
  generalize covI (C.map (n3 v)) = s at c1 c2 c3 ⊢
  have e0 : v / s * s = v := Int.ediv_mul_cancel c2
  have ht : 0 < v / s := by
    rcases Int.lt_or_le 0 (v / s) with z | z
    · exact z
    · have : v / s * s ≤ 0 := Int.mul_nonpos_of_nonpos_of_nonneg z (by omega)
      omega
  have key : ∀ p ∈ C, ∀ x : Int, g3 p.1 p.2 v ∣ x → (v / s) * (x / g3 p.1 p.2 v * (s / (n3 v p).2.2)) = x := fun p hp x hx => by
    obtain ⟨k1, k2, k3⟩ := n3_over (p := p) hv
    have d := Int.ediv_mul_cancel (c3 _ (List.mem_map.mpr ⟨p, hp, rfl⟩))
    have dx := Int.ediv_mul_cancel hx
    generalize (n3 v p).2.2 = o at *
    generalize s / o = w at *
    generalize v / s = t at *
    generalize g3 p.1 p.2 v = g at *
    generalize x / g = y at *
    have : t * w = g := by
      have e : o * (t * w) = o * g := by rw [k3, ← e0, ← d]; grind
      exact Int.eq_of_mul_eq_mul_left (by omega) e
    rw [← dx, ← this]
    grind
  have scl_of : ∀ p ∈ C, scl (v / s) p = (p.1 / g3 p.1 p.2 v * (s / (n3 v p).2.2), p.2 / g3 p.1 p.2 v * (s / (n3 v p).2.2)) := fun p hp => by
    have k1 := key p hp p.1 (g3_dvd (x := p.1) (y := p.2) (v := v)).1
    have k2 := key p hp p.2 (g3_dvd (x := p.1) (y := p.2) (v := v)).2.1
    unfold scl
    refine Prod.ext ?_ ?_
    · show p.1 / (v / s) = _
      conv => lhs; rw [← k1]
      exact Int.mul_ediv_cancel_left _ (by omega)
    · show p.2 / (v / s) = _
      conv => lhs; rw [← k2]
      exact Int.mul_ediv_cancel_left _ (by omega)
  refine ⟨v / s, ht, e0.symm, fun p hp => ?_, ?_⟩
  · rw [scl_of p hp]
    exact ⟨(key p hp p.1 (g3_dvd (x := p.1) (y := p.2) (v := v)).1).symm, (key p hp p.2 (g3_dvd (x := p.1) (y := p.2) (v := v)).2.1).symm⟩
  · rw [List.map_map]
    exact List.map_congr_left fun p hp => (scl_of p hp).symm
section
variable {C : List PI2} {t : Int} (ht : 0 < t) (h : ∀ p ∈ C, p.1 = t * (scl t p).1 ∧ p.2 = t * (scl t p).2)
include ht h
theorem scl_inj {p q : PI2} (hp : p ∈ C) (hq : q ∈ C) : scl t p = scl t q ↔ p = q := by
  constructor
  · intro e
    obtain ⟨a1, a2⟩ := h p hp
    obtain ⟨c1, c2⟩ := h q hq
    exact Prod.ext (by rw [a1, c1, e]) (by rw [a2, c2, e])
  · intro e; rw [e]
theorem scl_turn {a b p : PI2} (ha : a ∈ C) (hb : b ∈ C) (hp : p ∈ C) : turnI a b p = t * t * turnI (scl t a) (scl t b) (scl t p) := by
  obtain ⟨a1, a2⟩ := h a ha
  obtain ⟨b1, b2⟩ := h b hb
  obtain ⟨p1, p2⟩ := h p hp
  unfold turnI
  generalize scl t a = a' at *
  generalize scl t b = b' at *
  generalize scl t p = p' at *
  rw [a1, a2, b1, b2, p1, p2]
  grind
theorem scl_plt {p q : PI2} (hp : p ∈ C) (hq : q ∈ C) : plt (sw (scl t q)) (sw (scl t p)) ↔ plt (sw q) (sw p) := by
  obtain ⟨a1, a2⟩ := h p hp
  obtain ⟨c1, c2⟩ := h q hq
  unfold plt sw
  dsimp only
  have lt : ∀ x y : Int, t * x < t * y ↔ x < y := fun x y => ⟨fun z => Int.lt_of_mul_lt_mul_left z (by omega), fun z => Int.mul_lt_mul_of_pos_left z ht⟩
  have eq : ∀ x y : Int, t * x = t * y ↔ x = y := fun x y => ⟨fun z => Int.eq_of_mul_eq_mul_left (by omega) z, fun z => by rw [z]⟩
  rw [a1, a2, c1, c2, lt, lt, eq]
theorem scl_atP {i : Nat} (hi : i < C.length) : atP (C.map (scl t)) i = scl t (atP C i) ∧ atP C i ∈ C := by
  have h1 := atP_get (C := C.map (scl t)) (i := i) (by rw [List.length_map]; exact hi)
  rw [List.getElem?_map, atP_get hi] at h1
  exact ⟨(Option.some.inj h1).symm, List.mem_of_getElem? (atP_get hi)⟩
theorem scl_bent {i : Nat} (hi : i < C.length) : bentI (C.map (scl t)) i = bentI C i := by
  have en : nxtI (C.map (scl t)) i = nxtI C i := by unfold nxtI; rw [List.length_map]
  have hn : nxtI C i < C.length := Nat.mod_lt _ (by omega)
  obtain ⟨e1, m1⟩ := scl_atP ht h hi
  obtain ⟨e2, m2⟩ := scl_atP ht h hn
  unfold bentI
  rw [en, e1, e2]
  by_cases z : nxtI C i = i
  · rw [if_pos z, if_pos z]
  · rw [if_neg z, if_neg z]
    congr 1
    · exact decide_eq_decide.mpr (scl_inj ht h m1 m2)
    · congr 1
      unfold othI
      rw [en, List.length_map, List.map_map, List.map_map]
      refine List.map_congr_left fun m hm => ?_
      have hm' := List.mem_range.mp (List.mem_filter.mp hm).1
      obtain ⟨e3, m3⟩ := scl_atP ht h hm'
      refine decide_eq_decide.mpr ?_
      show turnI (scl t (atP C i)) (scl t (atP C (nxtI C i))) (atP (C.map (scl t)) m) ≤ 0 ↔ turnI (atP C i) (atP C (nxtI C i)) (atP C m) ≤ 0
      rw [e3, scl_turn ht h m1 m2 m3]
      have tt : 0 < t * t := Int.mul_pos ht ht
      constructor
      · intro w
        exact Int.mul_nonpos_of_nonneg_of_nonpos (by omega) w
      · intro w
        rcases Int.lt_or_le 0 (turnI (scl t (atP C i)) (scl t (atP C (nxtI C i))) (scl t (atP C m))) with q | q
        · have := Int.mul_pos tt q
          omega
        · exact q
end
theorem b2_scl {t : Int} {p : PI2} (h : b2 p) : b2 (scl t p) := by
  obtain ⟨h1, h2⟩ := h
  exact ⟨(inferInstance : Bd (p.1 / t) 300), (inferInstance : Bd (p.2 / t) 300)⟩
/-- the corners of a pen, handed in from the k-th on -/
theorem ord_ring {C : List PI2} {p0 : PI2} {v : Int} {k : Nat} (R : Ring C p0) (hk : k < C.length) (h64 : C.length ≤ 64) (hb : ∀ p ∈ C, b2 p) (hv : 0 < v) (bv : Bd v 3000) : ROrd [.lst ((rot C k).map (nP v))] (.ok (.lst (C.map (nP v)))) := by
  have hl := rot_len hk
  have hbr : ∀ p ∈ rot C k, b2 p := fun p hp => hb p (rot_mem.mp hp)
  obtain ⟨t, ht, _, hs, hp⟩ := pl_norm hv hbr
  obtain ⟨s, hs1, hs2, hs3, hs4, hs5⟩ := ring_start R hk
  have len : ((rot C k).map (n3 v)).length = C.length := by rw [List.length_map, hl]
  refine ⟨(rot C k).map (n3 v), v, hv, bv, by omega, okV_n hv hbr, fun q hq => ?_, by rw [pts_n], .inr (.inr ⟨by omega, by omega, fun i hi => ?_, s, scl t p0, ?_, fun m hm e => ?_, fun q hq => ?_, ?_⟩)⟩
  · rw [hp] at hq
    obtain ⟨p, hp', rfl⟩ := List.mem_map.mp hq
    exact b2_scl (hbr p hp')
  · rw [hp, scl_bent ht hs (by omega)]
    exact ring_bent R hk i (by omega)
  · rw [hp, List.getElem?_map, hs2]
    rfl
  · rw [hp, List.getElem?_map] at e
    cases e2 : (rot C k)[m]? with
    | none => rw [e2] at e; cases e
    | some r =>
      rw [e2] at e
      have := (scl_inj ht hs (List.mem_of_getElem? e2) (List.mem_of_getElem? hs2)).mp (Option.some.inj e)
      rw [this] at e2
      exact hs3 m hm e2
  · rw [hp] at hq
    obtain ⟨r, hr, rfl⟩ := List.mem_map.mp hq
    intro z
    exact hs4 r hr ((scl_plt ht hs (List.mem_of_getElem? hs2) hr).mp z)
  · rw [hs5 (n3 v), pts_n]

/-! ### pens as data -/
def penD (ls : List D) : D := .obj 0 [("_corners", .lst ls)]
def mapPen : Out → Out
  | .ok d => .ok (.obj 0 [("_corners", d)])
  | .new d => .new (.obj 0 [("_corners", d)])
  | .err c fs => .err c fs
theorem ord_new {ds : List D} {d : D} : ¬ ROrd ds (.new d) := fun ⟨L, v, _, _, _, _, _, _, h⟩ => by
  rcases h with ⟨_, h⟩ | ⟨_, i, _, _, _, h⟩ | ⟨_, _, _, s, p, _, _, _, h⟩ <;> cases h
/-- the pen with the corners C over v -/
def penS (C : List PI2) (v : Int) : D := penD (C.map (nP v))
/-- what is known of a pen's corners -/
structure PenOk (C : List PI2) (v : Int) : Prop where
  ring : ∃ p0, Ring C p0
  few : C.length ≤ 64
  bd : ∀ p ∈ C, b2 p
  pos : 0 < v
  bv : Bd v 3000
theorem PenOk.ne {C : List PI2} {v : Int} (h : PenOk C v) : C ≠ [] := fun z => by
  obtain ⟨p0, R⟩ := h.ring
  have := R.head
  rw [z] at this
  cases this
theorem PenOk.len {C : List PI2} {v : Int} (h : PenOk C v) : 0 < C.length := List.length_pos_iff.mpr h.ne
def RPen (ds : List D) (o : Out) : Prop := ∃ o', ROrd ds o' ∧ o = mapPen o'
theorem pen_r {C : List PI2} {v : Int} (h : PenOk C v) : RPen ([.lst (C.map (nP v))] ++ []) (.ok (penS C v)) := by
  obtain ⟨p0, R⟩ := h.ring
  have := ord_ring R h.len h.few h.bd h.pos h.bv
  have e : rot C 0 = C := by unfold rot; simp
  rw [e] at this
  exact ⟨_, this, rfl⟩
def RGet (ds : List D) (o : Out) : Prop := ∃ ls, ds = [penD ls] ∧ o = .ok (.lst ls)
theorem get_r {ls : List D} : RGet [penD ls] (.ok (.lst ls)) := ⟨ls, rfl, rfl⟩
local macro_rules | `(tactic| walk_at "cl") => `(tactic| exact pen_r (by assumption))
local macro_rules | `(tactic| walk_at "cl") => `(tactic| exact get_r)

abbrev s_Pen_init : Stmt := inClass (topS 26) 1
theorem s_Pen_init_sc : FnScope ["self", "corners"] ["self", "corners"] (defScope s_Pen_init) := ⟨rfl, rfl, rfl, by decide +kernel, rfl, by decide +kernel, by decide +kernel⟩
section
variable {W : Wd} {S : Sg}
theorem s_fldR {X : Cx} {U : WX} {g : En} {P : Po} {e : Expr} {y f : Str} {i c' : Nat} {fs' : List (Str × D)} {p pos pos' : Pos} (N : Nm X i y) (he : XR X S U g e c' fs') (hx : P.ex c' fs' g)
    (hs : swapsWith e (some (.Attribute (.Name y p) f pos')) pos.line X.env = pure false := by rfl) : XS X S U g (.Assign [.Attribute (.Name y p) f pos'] e pos) P :=
  psI (ps_fld (pe_var N.n N.vis N.dbg N.cdt) he hs) fun E σ H ⟨B, M, st, _, cx⟩ => ⟨B, M, st, XR.wish cx hx st⟩
theorem ok_peninit {dvs : List V} {f : Addr} {fd : FuncData} (F : Fd W.K "__init__" "Pen.__init__" s_Pen_init dvs f fd) (hK : W.K = S.K) (T : Mb W) (OP : ObC W S 0 "Pen" ["_corners"]) (f_ordered : Fn W S 5 "ordered" 1 [] ROrd) :
    FnOk W.P W.w W.K W.mg W.base (L2N.CX W.P W.w) 6 f fd ["self", "corners"] (spOb S 0 2 RPen) := by
  refine ob_init F hK s_Pen_init_sc fun X U a dx ds o b h => ?_
  have C := b.C
  obtain ⟨n_self, l_self⟩ := b.nm 0 "self" rfl (.inl rfl) (by decide) (by decide)
  obtain ⟨n_corners, l_corners⟩ := b.nm 1 "corners" rfl (.inl rfl) (by decide) (by decide)
  have g_ordered := b.ng "ordered" rfl (by decide)
  obtain ⟨o', h, rfl⟩ := h
  have h' := h
  obtain ⟨L, _, _, _, _, _, _, rfl, _⟩ := h'
  change XB _ _ _ [.ob a dx 0 [], .v (.lst (L.map pt3))] _ _
  cases o' with
  | ok d => exact s_cons (s_fld C.toKb OP n_self rfl (e_call C f_ordered g_ordered (a_cons (e_var n_corners rfl) a_nil) h) List.mem_cons_self (by decide) (s_nil ⟨rfl, rfl⟩))
  | new d => exact absurd h ord_new
  | err c fs => exact s_cons (s_fldR n_self (r_call C b.tk f_ordered g_ordered (a_cons (e_var n_corners rfl) a_nil) h) ⟨rfl, rfl⟩)
end

abbrev s_Pen_corners_get : Stmt := inClass (topS 26) 2
theorem s_Pen_corners_get_sc : FnScope ["self"] ["self"] (defScope s_Pen_corners_get) := ⟨rfl, rfl, rfl, by decide +kernel, rfl, by decide +kernel, by decide +kernel⟩
section
variable {W : Wd} {S : Sg}
theorem ok_penget {f : Addr} {fd : FuncData} (F : Fd W.K "corners" "Pen.corners" s_Pen_corners_get [] f fd) (hK : W.K = S.K) (T : Mb W) (OP : ObC W S 0 "Pen" ["_corners"]) : FnOk W.P W.w W.K W.mg W.base (L2N.CX W.P W.w) 1 f fd ["self"] (spOf S 1 RGet) := by
  refine def_ok F hK s_Pen_corners_get_sc (fun ds o h => by obtain ⟨_, rfl, _⟩ := h; rfl) fun X U ds o b h => ?_
  obtain ⟨ls, rfl, rfl⟩ := h
  have C := b.C
  obtain ⟨n_self, l_self⟩ := b.nm 0 "self" rfl (.inl rfl) (by decide) (by decide)
  have g_list := b.ng "list" rfl (by decide)
  have m_list := b.mg T.list
  change XB _ _ _ [.v (.obj 0 [("_corners", .lst ls)])] _ _
  walk_at "ret"
  rfl
end

abbrev s_Pen_corners : Stmt := inClass (topS 26) 3
theorem s_Pen_corners_sc : FnScope ["self", "corners"] ["self", "corners"] (defScope s_Pen_corners) := ⟨rfl, rfl, rfl, by decide +kernel, rfl, by decide +kernel, by decide +kernel⟩
def mapSet (fs : List (Str × D)) : Out → Out
  | .ok d => .ok (.obj 0 (putD "_corners" d fs))
  | .new d => .new (.obj 0 (putD "_corners" d fs))
  | .err c es => .err c es
def RSet (fs : List (Str × D)) (ds : List D) (o : Out) : Prop := fs.length < 1000 ∧ ∃ o', ROrd ds o' ∧ o = mapSet fs o'
theorem set_r {C : List PI2} {v : Int} {ls : List D} (h : PenOk C v) : RSet [("_corners", .lst ls)] [.lst (C.map (nP v))] (.ok (.obj 0 [("_corners", .lst (C.map (nP v)))])) := by
  obtain ⟨p0, R⟩ := h.ring
  have := ord_ring R h.len h.few h.bd h.pos h.bv
  have e : rot C 0 = C := by unfold rot; simp
  rw [e] at this
  exact ⟨Nat.le_of_ble_eq_true rfl, _, this, rfl⟩
theorem set_rot {C : List PI2} {v : Int} {k : Nat} {ls : List D} (h : PenOk C v) (hk : k < C.length) : RSet [("_corners", .lst ls)] [.lst ((rot C k).map (nP v))] (.ok (.obj 0 [("_corners", .lst (C.map (nP v)))])) := by
  obtain ⟨p0, R⟩ := h.ring
  exact ⟨Nat.le_of_ble_eq_true rfl, _, ord_ring R hk h.few h.bd h.pos h.bv, rfl⟩
section
variable {W : Wd} {S : Sg}
theorem ok_penset {f : Addr} {fd : FuncData} (F : Fd W.K "corners" "Pen.corners" s_Pen_corners [] f fd) (hK : W.K = S.K) (T : Mb W) (OP : ObC W S 0 "Pen" ["_corners"]) (f_ordered : Fn W S 5 "ordered" 1 [] ROrd) :
    FnOk W.P W.w W.K W.mg W.base (L2N.CX W.P W.w) 6 f fd ["self", "corners"] (spMut S 0 2 RSet) := by
  refine ob_mut F hK s_Pen_corners_sc fun X U a dx fs ds o b h => ?_
  have C := b.C
  obtain ⟨n_self, l_self⟩ := b.nm 0 "self" rfl (.inl rfl) (by decide) (by decide)
  obtain ⟨n_corners, l_corners⟩ := b.nm 1 "corners" rfl (.inl rfl) (by decide) (by decide)
  have g_ordered := b.ng "ordered" rfl (by decide)
  obtain ⟨hz, o', h, rfl⟩ := h
  have h' := h
  obtain ⟨L, _, _, _, _, _, _, rfl, _⟩ := h'
  change XB _ _ _ [.ob a dx 0 fs, .v (.lst (L.map pt3))] _ _
  cases o' with
  | ok d => exact s_cons (s_fld C.toKb OP n_self rfl (e_call C f_ordered g_ordered (a_cons (e_var n_corners rfl) a_nil) h) List.mem_cons_self hz (s_nil ⟨rfl, rfl⟩))
  | new d => exact absurd h ord_new
  | err c es => exact s_cons (s_fldR n_self (r_call C b.tk f_ordered g_ordered (a_cons (e_var n_corners rfl) a_nil) h) ⟨rfl, rfl⟩)
end

abbrev s_Pen_change : Stmt := inClass (topS 26) 4
theorem s_Pen_change_sc : FnScope ["self", "corners"] ["self", "corners"] (defScope s_Pen_change) := ⟨rfl, rfl, rfl, by decide +kernel, rfl, by decide +kernel, by decide +kernel⟩
def RSetO (fs : List (Str × D)) (ds : List D) (o : Out) : Prop := ∃ fs', RSet fs ds (.ok (.obj 0 fs')) ∧ o = .ok (.obj 0 fs')
section
variable {W : Wd} {S : Sg}
theorem ok_penchange {f : Addr} {fd : FuncData} (F : Fd W.K "change" "Pen.change" s_Pen_change [] f fd) (hK : W.K = S.K) (T : Mb W) (OP : ObC W S 0 "Pen" ["_corners"]) (p_set : SetP W S 0 "corners" 6 RSet) :
    FnOk W.P W.w W.K W.mg W.base (L2N.CX W.P W.w) 9 f fd ["self", "corners"] (spMut S 0 2 RSetO) := by
  refine ob_mut F hK s_Pen_change_sc fun X U a dx fs ds o b h => ?_
  have C := b.C
  obtain ⟨n_self, l_self⟩ := b.nm 0 "self" rfl (.inl rfl) (by decide) (by decide)
  obtain ⟨n_corners, l_corners⟩ := b.nm 1 "corners" rfl (.inl rfl) (by decide) (by decide)
  obtain ⟨fs', hfs, rfl⟩ := h
  have h' := hfs
  obtain ⟨_, o', h2, _⟩ := h'
  obtain ⟨L, _, _, _, _, _, _, rfl, _⟩ := h2
  change XB _ _ _ [.ob a dx 0 fs, .v (.lst (L.map pt3))] _ _
  exact s_cons (s_setp C OP p_set n_self rfl (e_var n_corners rfl) hfs (s_nil ⟨rfl, rfl⟩))
end

def ROrdL (ds ys : List D) : Prop := ROrd ds (.ok (.lst ys))
theorem pure_pts : ∀ L : List P3, pureDs (L.map pt3) = true
  | [] => rfl
  | _ :: L => pure_pts L
theorem ordL_pure {ds ys : List D} (h : ROrdL ds ys) : pureDs ys = true := by
  obtain ⟨L, v, h1, h2, h3, h4, h5, h6, h⟩ := h
  rcases h with ⟨_, z⟩ | ⟨_, i, _, _, _, z⟩ | ⟨a, b, c, s, p, e1, e2, e3, z⟩
  · cases z
  · cases z
  · cases z
    exact pure_pts _
theorem ordL_in {ds ys : List D} (h : ROrdL ds ys) : ∃ L : List P3, ds = [.lst (L.map pt3)] := by
  obtain ⟨L, v, h1, h2, h3, h4, h5, h6, h⟩ := h
  exact ⟨L, h6⟩
section
variable {W : Wd} {S : Sg}
theorem ok_peninitN {f : Addr} {fd : FuncData} (F : Fd W.K "__init__" "Pen.__init__" s_Pen_init [] f fd) (hK : W.K = S.K) (T : Mb W) (OP : ObC W S 0 "Pen" ["_corners"]) (f_orderedN : Fn W S 5 "ordered" 1 [] ROrdN) :
    FnOk W.P W.w W.K W.mg W.base (L2N.CX W.P W.w) 6 f fd ["self", "corners"] (spObN S 0 2 "_corners" ROrdL) := by
  refine ob_initN F hK s_Pen_init_sc rfl (fun ds ys h => ordL_pure h) fun X U a dx ds ys b h => ?_
  have C := b.C
  obtain ⟨n_self, l_self⟩ := b.nm 0 "self" rfl (.inl rfl) (by decide) (by decide)
  obtain ⟨n_corners, l_corners⟩ := b.nm 1 "corners" rfl (.inl rfl) (by decide) (by decide)
  have g_ordered := b.ng "ordered" rfl (by decide)
  have h' := h
  obtain ⟨L, rfl⟩ := ordL_in h'
  exact ⟨n_self, ⟨_, _, OP, List.mem_cons_self⟩, f_call (k := 5) C f_orderedN g_ordered (a_cons (e_var n_corners rfl) a_nil) (ordN_of h), rfl⟩
end

section
variable {W : Wd} {S : Sg}
theorem ok_pensetN {f : Addr} {fd : FuncData} (F : Fd W.K "corners" "Pen.corners" s_Pen_corners [] f fd) (hK : W.K = S.K) (T : Mb W) (OP : ObC W S 0 "Pen" ["_corners"]) (f_orderedN : Fn W S 5 "ordered" 1 [] ROrdN) :
    FnOk W.P W.w W.K W.mg W.base (L2N.CX W.P W.w) 6 f fd ["self", "corners"] (spMutN S 0 2 "_corners" ROrdL) := by
  refine ob_setN F hK s_Pen_corners_sc rfl (fun ds ys h => ordL_pure h) fun X U a dx d0 ds ys b h => ?_
  have C := b.C
  obtain ⟨n_self, l_self⟩ := b.nm 0 "self" rfl (.inl rfl) (by decide) (by decide)
  obtain ⟨n_corners, l_corners⟩ := b.nm 1 "corners" rfl (.inl rfl) (by decide) (by decide)
  have g_ordered := b.ng "ordered" rfl (by decide)
  have h' := h
  obtain ⟨L, rfl⟩ := ordL_in h'
  exact ⟨n_self, ⟨_, _, OP, List.mem_cons_self⟩, f_call (k := 5) C f_orderedN g_ordered (a_cons (e_var n_corners rfl) a_nil) (ordN_of h), rfl⟩
end

section
variable {W : Wd} {S : Sg}
theorem ok_penchangeN {f : Addr} {fd : FuncData} (F : Fd W.K "change" "Pen.change" s_Pen_change [] f fd) (hK : W.K = S.K) (T : Mb W) (OP : ObC W S 0 "Pen" ["_corners"]) (p_setN : SetPN W S 0 "corners" 6 "_corners" ROrdL) :
    FnOk W.P W.w W.K W.mg W.base (L2N.CX W.P W.w) 9 f fd ["self", "corners"] (spMutN S 0 2 "_corners" ROrdL) := by
  refine ob_chgN F hK s_Pen_change_sc rfl p_setN (by decide) rfl (fun X U b => ?_) (by decide)
  obtain ⟨n_self, l_self⟩ := b.nm 0 "self" rfl (.inl rfl) (by decide) (by decide)
  obtain ⟨n_corners, l_corners⟩ := b.nm 1 "corners" rfl (.inl rfl) (by decide) (by decide)
  exact ⟨n_self, n_corners, ⟨_, _, OP⟩, rfl⟩
end

def RGetN (ds : List D) (o : Out) : Prop := ∃ ls, ds = [penD ls] ∧ o = .new (.lst ls)
section
variable {W : Wd} {S : Sg}
theorem ok_pengetN {f : Addr} {fd : FuncData} (F : Fd W.K "corners" "Pen.corners" s_Pen_corners_get [] f fd) (hK : W.K = S.K) (T : Mb W) (OP : ObC W S 0 "Pen" ["_corners"]) : FnOk W.P W.w W.K W.mg W.base (L2N.CX W.P W.w) 1 f fd ["self"] (spOf S 1 RGetN) := by
  refine def_ok F hK s_Pen_corners_get_sc (fun ds o h => by obtain ⟨_, rfl, _⟩ := h; rfl) fun X U ds o b h => ?_
  obtain ⟨ls, rfl, rfl⟩ := h
  have C := b.C
  obtain ⟨n_self, l_self⟩ := b.nm 0 "self" rfl (.inl rfl) (by decide) (by decide)
  have g_list := b.ng "list" rfl (by decide)
  have m_list := b.mg T.list
  change XB _ _ _ [.v (.obj 0 [("_corners", .lst ls)])] _ _
  exact s_cons (s_retF (f_n (n_copy C.toKb (e_fld C.toKb OP (e_var n_self rfl) (by simp) rfl) g_list m_list)) rfl)
end

abbrev s_law_draw_spots : Stmt := topS 38
theorem s_law_draw_spots_sc : FnScope ["_law_pool", "_law_at", "_law_count", "_law_reach", "_law_wide", "_law_spots", "_law_k"] ["_law_pool", "_law_at", "_law_count", "_law_reach"] (defScope s_law_draw_spots) := ⟨rfl, rfl, rfl, by decide +kernel, rfl, by decide +kernel, by decide +kernel⟩
def spotI (L : List Int) (k reach : Int) : PI2 := (gI L k % (2 * reach + 1) - reach, gI L (k + 1) % (2 * reach + 1) - reach)
def spotsI (L : List Int) (k reach : Int) (n : Nat) : List PI2 := (List.range n).map fun (i : Nat) => spotI L (k + (i : Int) * 2) reach
theorem spots_len {L : List Int} {k reach : Int} {n : Nat} : (spotsI L k reach n).length = n := by unfold spotsI; rw [List.length_map, List.length_range]
theorem spots_snoc {L : List Int} {k reach : Int} {n : Nat} : spotsI L k reach (n + 1) = spotsI L k reach n ++ [spotI L (k + (n : Int) * 2) reach] := by
  unfold spotsI
  rw [List.range_succ, List.map_append]
  rfl
theorem spots_in {L : List Int} {k reach : Int} {n : Nat} (h0 : 0 < reach) (h : reach ≤ 1000) : ∀ p ∈ spotsI L k reach n, -reach ≤ p.1 ∧ p.1 ≤ reach ∧ -reach ≤ p.2 ∧ p.2 ≤ reach := fun p hp => by
  obtain ⟨i, _, rfl⟩ := List.mem_map.mp hp
  unfold spotI
  dsimp only
  have a1 := Int.emod_nonneg (gI L (k + (i : Int) * 2)) (show 2 * reach + 1 ≠ 0 by omega)
  have a2 := Int.emod_lt_of_pos (gI L (k + (i : Int) * 2)) (show 0 < 2 * reach + 1 by omega)
  have a3 := Int.emod_nonneg (gI L (k + (i : Int) * 2 + 1)) (show 2 * reach + 1 ≠ 0 by omega)
  have a4 := Int.emod_lt_of_pos (gI L (k + (i : Int) * 2 + 1)) (show 0 < 2 * reach + 1 by omega)
  omega
theorem spots_b2 {L : List Int} {k reach : Int} {n : Nat} (h0 : 0 < reach) (h : reach ≤ 1000) : ∀ p ∈ spotsI L k reach n, b2 p := fun p hp => by
  have := spots_in h0 h p hp
  have t : (1001 : Nat) < 2 ^ 300 := by decide
  exact ⟨⟨by omega⟩, ⟨by omega⟩⟩
theorem rg_two {a : Int} {n : Nat} (h0 : 0 ≤ a) (h1 : a ≤ 1000) (hn : n ≤ 1000) : RgC a (a + 2 * (n : Int)) 2 n := by
  have e : Builtin.Range.rangeSize a (a + 2 * (n : Int)) 2 = n := by
    unfold Builtin.Range.rangeSize
    rw [if_pos (by decide)]
    split <;> omega
  refine ⟨by decide, by decide, ?_, e⟩
  unfold Builtin.Range.small
  rw [e]
  unfold Builtin.Range.rangeFitsLong
  simp
  omega
def RSpt (ds : List D) (o : Out) : Prop := ∃ (L : List Int) (k reach : Int) (n : Nat), 0 ≤ k ∧ k + 2 * n ≤ L.length ∧ L.length ≤ 1000 ∧ pool L ∧ 0 < reach ∧ reach ≤ 1000 ∧ ds = [.lst (L.map D.int), .int k, .int n, .int reach] ∧ o = .ok (.lst ((spotsI L k reach n).map pairD))
theorem spt_r {L : List Int} {k reach c : Int} {n : Nat} (e : c = (n : Int)) (h0 : 0 ≤ k) (h1 : k + 2 * n ≤ L.length) (h2 : L.length ≤ 1000) (h3 : pool L) (h4 : 0 < reach) (h5 : reach ≤ 1000) : RSpt ([.lst (L.map D.int), .int k, .int c, .int reach] ++ []) (.ok (.lst ((spotsI L k reach n).map pairD))) :=
  ⟨L, k, reach, n, h0, h1, h2, h3, h4, h5, by rw [e]; rfl, rfl⟩
section
variable {W : Wd} {S : Sg}
theorem ok_drawspots {f : Addr} {fd : FuncData} (F : Fd W.K "_law_draw_spots" "_law_draw_spots" s_law_draw_spots [] f fd) (hK : W.K = S.K) (T : Mb W) :
    FnOk W.P W.w W.K W.mg W.base (L2N.CX W.P W.w) 1 f fd ["_law_pool", "_law_at", "_law_count", "_law_reach"] (spOf S 4 RSpt) := by
  refine def_ok F hK s_law_draw_spots_sc (fun ds o h => by obtain ⟨_, _, _, _, _, _, _, _, _, _, rfl, _⟩ := h; rfl) fun X U ds o b h => ?_
  obtain ⟨L, k, reach, n, h0, h1, h2, h3, h4, h5, rfl, rfl⟩ := h
  have C := b.C
  obtain ⟨n__law_pool, l__law_pool⟩ := b.nm 0 "_law_pool" rfl (.inl rfl) (by decide) (by decide)
  obtain ⟨n__law_at, l__law_at⟩ := b.nm 1 "_law_at" rfl (.inl rfl) (by decide) (by decide)
  obtain ⟨n__law_count, l__law_count⟩ := b.nm 2 "_law_count" rfl (.inl rfl) (by decide) (by decide)
  obtain ⟨n__law_reach, l__law_reach⟩ := b.nm 3 "_law_reach" rfl (.inl rfl) (by decide) (by decide)
  obtain ⟨n__law_wide, l__law_wide⟩ := b.nm 4 "_law_wide" rfl (.inl rfl) (by decide) (by decide)
  obtain ⟨n__law_spots, l__law_spots⟩ := b.nm 5 "_law_spots" rfl (.inl rfl) (by decide) (by decide)
  obtain ⟨n__law_k, l__law_k⟩ := b.nm 6 "_law_k" rfl (.inl rfl) (by decide) (by decide)
  have g_range := b.ng "range" rfl (by decide)
  have m_range := b.mg T.range
  have g_int := b.ng "int" rfl (by decide)
  have m_int := b.mg T.int
  change XB _ _ _ [.v (.lst (L.map D.int)), .v (.int k), .v (.int n), .v (.int reach), .no, .no, .no] _ _
  have br : Bd reach 10 := ⟨by omega⟩
  have bn : Bd (n : Int) 10 := ⟨by omega⟩
  walk_at "asg"
  refine' s_cons (s_asgN C.toKb l__law_spots (n_lst a_nil) ?k0)
  dsimp only [List.set_cons_succ, List.set_cons_zero]
  have hw : 0 < 2 * reach + 1 := by omega
  refine s_mid (fun g => ∃ q : Sl, g = [.v (.lst (L.map D.int)), .v (.int k), .v (.int n), .v (.int reach), .v (.int (2 * reach + 1)), .own ((spotsI L k reach n).map pairD), q]) ?_ ?_
  · refine' s_for C (i_range3 (i := k) (j := k + 2 * (n : Int)) (c := 2) (n := n) g_range m_range ?xa (rg_two h0 (by omega) (by omega))) (fun i g => ∃ q : Sl, g = [.v (.lst (L.map D.int)), .v (.int k), .v (.int n), .v (.int reach), .v (.int (2 * reach + 1)), .own ((spotsI L k reach i).map pairD), q]) ⟨.no, rfl⟩ ?hs (fun g h => h)
    case xa => walk_at "ag"
    case hs =>
      rintro i g hi ⟨q, rfl⟩
      refine ⟨_, g_name C.toKb l__law_k, ?_⟩
      dsimp only [List.set_cons_succ, List.set_cons_zero]
      have hb0 : 0 ≤ k + (i : Int) * 2 := by omega
      have hb1 : k + (i : Int) * 2 < L.length := by omega
      have hb2 : 0 ≤ k + (i : Int) * 2 + 1 := by omega
      have hb3 : k + (i : Int) * 2 + 1 < L.length := by omega
      refine' s_cons (s_app C.toKb n__law_spots rfl (d := pairD (spotI L (k + (i : Int) * 2) reach)) ?x2 (by rw [List.length_map, spots_len]; omega) ?k2)
      case x2 =>
        change Fw.XE X S _ _ (.tup [.int (gI L (k + (i : Int) * 2) % (2 * reach + 1) - reach), .int (gI L (k + (i : Int) * 2 + 1) % (2 * reach + 1) - reach)])
        walk_at "ex"
      refine s_nil ⟨.v (.int (k + (i : Int) * 2)), ?_⟩
      rw [spots_snoc, List.map_append]
      rfl
  · rintro g ⟨q, rfl⟩
    exact s_cons (s_retOwn n__law_spots rfl rfl)
end

abbrev s_law_made_points : Stmt := topS 39
theorem s_law_made_points_sc : FnScope ["_law_spots", "_law_over", "_law_spot"] ["_law_spots", "_law_over"] (defScope s_law_made_points) := ⟨rfl, rfl, rfl, by decide +kernel, rfl, by decide +kernel, by decide +kernel⟩
def RMade (ds : List D) (o : Out) : Prop := ∃ (l : List PI2) (v : Int), 0 < v ∧ Bd v 3000 ∧ l.length ≤ 1000 ∧ ds = [.lst (l.map pairD), .int v] ∧ o = .ok (.lst (l.map (nP v)))
theorem made_r {l : List PI2} {v : Int} {n1 : Nat} [b1 : Bd v n1] (h : 0 < v) (h2 : l.length ≤ 1000) (h1 : n1 ≤ 3000) : RMade ([.lst (l.map pairD), .int v] ++ []) (.ok (.lst (l.map (nP v)))) := ⟨l, v, h, ⟨b1.up h1⟩, h2, rfl, rfl⟩
section
variable {W : Wd} {S : Sg}
theorem ok_made {f : Addr} {fd : FuncData} (F : Fd W.K "_law_made_points" "_law_made_points" s_law_made_points [] f fd) (hK : W.K = S.K) (T : Mb W) (TP : PtC W S) (f_pt : PtI W S 3 3 [] RPt) :
    FnOk W.P W.w W.K W.mg W.base (L2N.CX W.P W.w) 5 f fd ["_law_spots", "_law_over"] (spOf S 2 RMade) := by
  refine def_ok F hK s_law_made_points_sc (fun ds o h => by obtain ⟨_, _, _, _, _, rfl, _⟩ := h; rfl) fun X U ds o b h => ?_
  obtain ⟨l, v, hv, h1, h2, rfl, rfl⟩ := h
  have C := b.C
  obtain ⟨n__law_spots, l__law_spots⟩ := b.nm 0 "_law_spots" rfl (.inl rfl) (by decide) (by decide)
  obtain ⟨n__law_over, l__law_over⟩ := b.nm 1 "_law_over" rfl (.inr rfl) (by decide) (by decide)
  change XB _ _ _ [.v (.lst (l.map pairD)), .v (.int v), .no] _ _
  have blk : ∀ sc2 own, blkC X.N (defScope s_law_made_points) sc2 own = true → BlkOk X.N X.env.scope sc2 own := fun sc2 own h => by rw [b.sc]; exact blkOk_by h
  refine' s_cons (s_ret (n_e (lc_map (l := l) (da := pairD) (f := nP v) (0, 0) (x := "_law_spot") (ix := 2) C (by omega) (e_var n__law_spots rfl) (blk _ _ (by rw [b.N]; rfl)) (by rw [b.N]; rfl) rfl ?hel)) rfl)
  intro X' bk p hp
  have C' := bk.C
  have n_s := bk.own 2 "_law_spot" (by rw [b.N]; rfl) rfl (by decide) (by decide)
  have n_o := bk.caught 1 "_law_over" (by rw [b.N]; rfl) rfl (by decide) (by decide)
  have g_P := bk.glob "Point" rfl (by decide)
  change Fw.XE X' S [.v (.lst (l.map pairD)), .v (.int v), .v (.tup [.int p.1, .int p.2])] _ (normP p.1 p.2 v)
  walk_at "ex"
end
local macro_rules | `(tactic| walk_at "cl") => `(tactic| exact made_r (by assumption) (by first | assumption | omega) (by decide +kernel))

def RMadeN (ds : List D) (o : Out) : Prop := ∃ (l : List PI2) (v : Int), 0 < v ∧ Bd v 3000 ∧ l.length ≤ 1000 ∧ ds = [.lst (l.map pairD), .int v] ∧ o = .new (.lst (l.map (nP v)))
theorem madeN_r {l : List PI2} {v : Int} {n1 : Nat} [b1 : Bd v n1] (h : 0 < v) (h2 : l.length ≤ 1000) (h1 : n1 ≤ 3000) : RMadeN ([.lst (l.map pairD), .int v] ++ []) (.new (.lst (l.map (nP v)))) := ⟨l, v, h, ⟨b1.up h1⟩, h2, rfl, rfl⟩
section
variable {W : Wd} {S : Sg}
theorem ok_madeN {f : Addr} {fd : FuncData} (F : Fd W.K "_law_made_points" "_law_made_points" s_law_made_points [] f fd) (hK : W.K = S.K) (T : Mb W) (TP : PtC W S) (f_pt : PtI W S 3 3 [] RPt) :
    FnOk W.P W.w W.K W.mg W.base (L2N.CX W.P W.w) 5 f fd ["_law_spots", "_law_over"] (spOf S 2 RMadeN) := by
  refine def_ok F hK s_law_made_points_sc (fun ds o h => by obtain ⟨_, _, _, _, _, rfl, _⟩ := h; rfl) fun X U ds o b h => ?_
  obtain ⟨l, v, hv, h1, h2, rfl, rfl⟩ := h
  have C := b.C
  obtain ⟨n__law_spots, l__law_spots⟩ := b.nm 0 "_law_spots" rfl (.inl rfl) (by decide) (by decide)
  obtain ⟨n__law_over, l__law_over⟩ := b.nm 1 "_law_over" rfl (.inr rfl) (by decide) (by decide)
  change XB _ _ _ [.v (.lst (l.map pairD)), .v (.int v), .no] _ _
  have blk : ∀ sc2 own, blkC X.N (defScope s_law_made_points) sc2 own = true → BlkOk X.N X.env.scope sc2 own := fun sc2 own h => by rw [b.sc]; exact blkOk_by h
  refine' s_cons (s_retF (f_n (lc_map (l := l) (da := pairD) (f := nP v) (0, 0) (x := "_law_spot") (ix := 2) C (by omega) (e_var n__law_spots rfl) (blk _ _ (by rw [b.N]; rfl)) (by rw [b.N]; rfl) rfl ?hel)) rfl)
  intro X' bk p hp
  have C' := bk.C
  have n_s := bk.own 2 "_law_spot" (by rw [b.N]; rfl) rfl (by decide) (by decide)
  have n_o := bk.caught 1 "_law_over" (by rw [b.N]; rfl) rfl (by decide) (by decide)
  have g_P := bk.glob "Point" rfl (by decide)
  change Fw.XE X' S [.v (.lst (l.map pairD)), .v (.int v), .v (.tup [.int p.1, .int p.2])] _ (normP p.1 p.2 v)
  walk_at "ex"
end

abbrev s_law_draw_shape : Stmt := topS 41
theorem s_law_draw_shape_sc : FnScope ["_law_pool", "_law_reach"] ["_law_pool"] (defScope s_law_draw_shape) := ⟨rfl, rfl, rfl, by decide +kernel, rfl, by decide +kernel, by decide +kernel⟩
def reachI (L : List Int) : Int := ([6, 40, 400] : List Int).getD (gI L 0 % 3).toNat 0
def shapeI (L : List Int) : List PI2 := hullL (spotsI L 2 (reachI L) (1 + gI L 1 % 9).toNat)
theorem reach_at {x : Int} (h0 : 0 ≤ x) (h : x < 3) : atI [D.int 6, D.int 40, D.int 400] x = some (.int (([6, 40, 400] : List Int).getD x.toNat 0)) := by
  have : x = 0 ∨ x = 1 ∨ x = 2 := by omega
  rcases this with h | h | h <;> subst h <;> rfl
theorem reach_in {L : List Int} (h : pool L) : 0 < reachI L ∧ reachI L ≤ 1000 := by
  have a1 := gI_in (i := 0) h
  unfold reachI
  have : gI L 0 % 3 = 0 ∨ gI L 0 % 3 = 1 ∨ gI L 0 % 3 = 2 := by omega
  rcases this with h | h | h <;> rw [h] <;> decide
theorem hull_ok {l : List PI2} {v : Int} (hne : l ≠ []) (hl : l.length ≤ 32) (hb : ∀ p ∈ l, b2 p) (hv : 0 < v) (bv : v ≤ 1000) : PenOk (hullL l) v := by
  have e1 : (sortU (l.map sw)).map sw ≠ [] := fun z => by
    cases l with
    | nil => exact hne rfl
    | cons q l =>
      have : sw q ∈ sortU ((q :: l).map sw) := sortU_mem.mpr (List.mem_map.mpr ⟨q, List.mem_cons_self, rfl⟩)
      rw [List.map_eq_nil_iff.mp z] at this
      cases this
  have e2 : ((sortU (l.map sw)).map sw).length ≤ 32 := by
    have := sortU_len (l := l.map sw)
    rw [List.length_map] at this ⊢
    omega
  have bv3 : Bd v 3000 := ⟨Nat.lt_of_lt_of_le (show v.natAbs < 1001 by omega) (by decide +kernel)⟩
  refine ⟨hull_ring (sortU_inc _) e1, ?_, fun p hp => ?_, hv, bv3⟩
  · have := hull_len (l := (sortU (l.map sw)).map sw)
    unfold hullL
    omega
  · obtain ⟨q, hq, rfl⟩ := List.mem_map.mp (hull_sub p hp)
    obtain ⟨r, hr, rfl⟩ := List.mem_map.mp (sortU_mem.mp hq)
    exact hb r hr
theorem count_in {L : List Int} (h : pool L) : (1 + gI L 1 % 9).toNat ≤ 9 ∧ 1 ≤ (1 + gI L 1 % 9).toNat ∧ 1 + gI L 1 % 9 = (((1 + gI L 1 % 9).toNat : Nat) : Int) := by
  have a1 := gI_in (i := 1) h
  omega
theorem spots_ne {L : List Int} {k r : Int} {n : Nat} (h : 1 ≤ n) : spotsI L k r n ≠ [] := fun z => by
  have := congrArg List.length z
  rw [spots_len] at this
  simp at this
  omega
theorem shape_ok {L : List Int} {v : Int} (h : pool L) (hv : 0 < v) (bv : v ≤ 1000) : PenOk (shapeI L) v := by
  obtain ⟨r1, r2⟩ := reach_in h
  obtain ⟨c1, c2, _⟩ := count_in h
  exact hull_ok (spots_ne c2) (by rw [spots_len]; omega) (spots_b2 r1 r2) hv bv
def RShp (ds : List D) (o : Out) : Prop := ∃ L : List Int, 20 ≤ L.length ∧ L.length ≤ 1000 ∧ pool L ∧ ds = [.lst (L.map D.int)] ∧ o = .ok (.lst ((shapeI L).map pairD))
theorem shp_r {L : List Int} (h : 20 ≤ L.length) (h1 : L.length ≤ 1000) (h2 : pool L) : RShp ([.lst (L.map D.int)] ++ []) (.ok (.lst ((shapeI L).map pairD))) := ⟨L, h, h1, h2, rfl, rfl⟩
section
variable {W : Wd} {S : Sg}
theorem ok_drawshape {f : Addr} {fd : FuncData} (F : Fd W.K "_law_draw_shape" "_law_draw_shape" s_law_draw_shape [] f fd) (hK : W.K = S.K) (T : Mb W) (f_hullof : Fn W S 3 "_law_hull_of" 1 [] RHull) (f_drawspots : Fn W S 1 "_law_draw_spots" 4 [] RSpt) :
    FnOk W.P W.w W.K W.mg W.base (L2N.CX W.P W.w) 4 f fd ["_law_pool"] (spOf S 1 RShp) := by
  refine def_ok F hK s_law_draw_shape_sc (fun ds o h => by obtain ⟨_, _, _, _, rfl, _⟩ := h; rfl) fun X U ds o b h => ?_
  obtain ⟨L, h0, h1, h2, rfl, rfl⟩ := h
  have C := b.C
  obtain ⟨n__law_pool, l__law_pool⟩ := b.nm 0 "_law_pool" rfl (.inl rfl) (by decide) (by decide)
  obtain ⟨n__law_reach, l__law_reach⟩ := b.nm 1 "_law_reach" rfl (.inl rfl) (by decide) (by decide)
  have g_int := b.ng "int" rfl (by decide)
  have m_int := b.mg T.int
  have g__law_hull_of := b.ng "_law_hull_of" rfl (by decide)
  have g__law_draw_spots := b.ng "_law_draw_spots" rfl (by decide)
  change XB _ _ _ [.v (.lst (L.map D.int)), .no] _ _
  have a1 := gI_in (i := 0) h2
  have hr := reach_at (x := gI L 0 % 3) (by omega) (by omega)
  refine' s_cons (s_asg C.toKb l__law_reach (d := .int (reachI L)) (e_ix (n_e (n_lst ?x1)) ?x2 (x_lst C.toKb hr)) ?k1)
  case x1 => walk_at "ag"
  case x2 => walk_at "ex"
  dsimp only [List.set_cons_succ, List.set_cons_zero]
  obtain ⟨r1, r2⟩ := reach_in h2
  obtain ⟨c1, c2, c3⟩ := count_in h2
  have hs : shapeI L = hullL (spotsI L 2 (reachI L) (1 + gI L 1 % 9).toNat) := rfl
  rw [hs]
  generalize reachI L = r at r1 r2 ⊢
  generalize (1 + gI L 1 % 9).toNat = n at c1 c2 c3 ⊢
  have q1 : spotsI L 2 r n ≠ [] := spots_ne c2
  have q2 : (spotsI L 2 r n).length < 64 := by rw [spots_len]; omega
  have q3 := spots_b2 (L := L) (k := 2) (n := n) r1 r2
  have q4 : (2 : Int) + 2 * (n : Int) ≤ L.length := by omega
  refine' s_cons (s_ret (e_call C f_hullof g__law_hull_of (a_cons (e_call C f_drawspots g__law_draw_spots ?x3 (spt_r c3 (by decide) q4 h1 h2 r1 r2)) a_nil) (hull_r q1 (by omega) q3)) rfl)
  case x3 => walk_at "ag"
end
local macro_rules | `(tactic| walk_at "cl") => `(tactic| exact shp_r (by first | assumption | omega) (by first | assumption | omega) (by assumption))

abbrev s_Point_eq : Stmt := inClass (topS 14) 3
theorem s_Point_eq_sc : FnScope ["self", "other"] ["self", "other"] (defScope s_Point_eq) := ⟨rfl, rfl, rfl, by decide +kernel, rfl, by decide +kernel, by decide +kernel⟩
def isPt : D → Bool
  | .pt _ _ _ => true
  | _ => false
def REq (ds : List D) (o : Out) : Prop := (∃ a b c x y v : Int, ds = [.pt a b c, .pt x y v] ∧ o = .ok (.bl (true && (decide (a = x) && (decide (b = y) && decide (c = v)))))) ∨ ∃ (a b c : Int) (l : List D), ds = [.pt a b c, .tup l] ∧ o = .ok (.bl false)
theorem peq_r {a b c x y v : Int} : REq [.pt a b c, .pt x y v] (.ok (.bl (true && (decide (a = x) && (decide (b = y) && decide (c = v)))))) := .inl ⟨a, b, c, x, y, v, rfl, rfl⟩
theorem peq_t {a b c : Int} {l : List D} : REq [.pt a b c, .tup l] (.ok (.bl false)) := .inr ⟨a, b, c, l, rfl, rfl⟩
section
variable {W : Wd} {S : Sg}
theorem ok_peq {f : Addr} {fd : FuncData} (F : Fd W.K "__eq__" "Point.__eq__" s_Point_eq [] f fd) (hK : W.K = S.K) (T : Mb W) (TP : PtC W S) (kpp : PySem.W.kitOne W.K (.ref S.cP) (.ref S.cP) = some true) (ktp : PySem.W.kitOne W.K (.type "tuple") (.ref S.cP) = some false) :
    FnOk W.P W.w W.K W.mg W.base (L2N.CX W.P W.w) 1 f fd ["self", "other"] (spOf S 2 REq) := by
  refine def_ok F hK s_Point_eq_sc (fun ds o h => by rcases h with ⟨_, _, _, _, _, _, rfl, _⟩ | ⟨_, _, _, _, rfl, _⟩ <;> rfl) fun X U ds o b h => ?_
  have C := b.C
  obtain ⟨n_self, l_self⟩ := b.nm 0 "self" rfl (.inl rfl) (by decide) (by decide)
  obtain ⟨n_other, l_other⟩ := b.nm 1 "other" rfl (.inl rfl) (by decide) (by decide)
  have g_isinstance := b.ng "isinstance" rfl (by decide)
  have m_isinstance := b.mg T.isinstance
  have g_Point := b.ng "Point" rfl (by decide)
  rcases h with ⟨x, y, v, x2, y2, v2, rfl, rfl⟩ | ⟨x, y, v, l, rfl, rfl⟩
  · change XB _ _ _ [.v (.pt x y v), .v (.pt x2 y2 v2)] _ _
    refine' s_cons (s_ret (e_and (e_isi C.toKb ?a ?i g_isinstance T.isinstance g_Point TP.gC ?kk) ?bx) ?k)
    case a => walk_at "ex"
    case i => exact ⟨TP.scls, TP.isi⟩
    case kk => exact kpp
    case bx =>
      intro _
      walk_at "ex"
    case k => rfl
  · change XB _ _ _ [.v (.pt x y v), .v (.tup l)] _ _
    refine' s_cons (s_ret (e_and (b2 := true) (e_isi C.toKb ?a ?i g_isinstance T.isinstance g_Point TP.gC ?kk) ?bx) ?k)
    case a => walk_at "ex"
    case i => exact trivial
    case kk => exact ktp
    case bx =>
      intro z
      cases z
    case k => rfl
end
local macro_rules | `(tactic| walk_at "cl") => `(tactic| first | exact peq_r | exact peq_t)

abbrev s_Pen_eq : Stmt := inClass (topS 26) 8
theorem s_Pen_eq_sc : FnScope ["self", "other"] ["self", "other"] (defScope s_Pen_eq) := ⟨rfl, rfl, rfl, by decide +kernel, rfl, by decide +kernel, by decide +kernel⟩
def eqP : D → D → Bool
  | .pt a b c, .pt x y v => true && (decide (a = x) && (decide (b = y) && decide (c = v)))
  | _, _ => false
def RPEq (ds : List D) (o : Out) : Prop := ∃ (A : List PI2) (v : Int) (B : List PI2) (w : Int), ds = [penS A v, penS B w] ∧ o = .ok (.bl (eqsB eqP (A.map (nP v)) (B.map (nP w))))
theorem peq2_r {A B : List PI2} {v w : Int} : RPEq [penS A v, penS B w] (.ok (.bl (eqsB eqP (A.map (nP v)) (B.map (nP w))))) := ⟨A, v, B, w, rfl, rfl⟩
theorem eqP_iff {v w : Int} {p q : PI2} : eqP (nP v p) (nP w q) = true ↔ nP v p = nP w q := by
  rw [show nP v p = .pt (p.1 / g3 p.1 p.2 v) (p.2 / g3 p.1 p.2 v) (v / g3 p.1 p.2 v) from rfl, show nP w q = .pt (q.1 / g3 q.1 q.2 w) (q.2 / g3 q.1 q.2 w) (w / g3 q.1 q.2 w) from rfl]
  unfold eqP
  simp only [Bool.true_and, Bool.and_eq_true, decide_eq_true_eq, D.pt.injEq]
theorem eqs_iff {v w : Int} : ∀ {A B : List PI2}, eqsB eqP (A.map (nP v)) (B.map (nP w)) = true ↔ A.map (nP v) = B.map (nP w)
  | [], [] => by simp [eqsB]
  | [], _ :: _ => by simp [eqsB]
  | _ :: _, [] => by simp [eqsB]
  | p :: A, q :: B => by
    rw [List.map_cons, List.map_cons, eqsB, Bool.and_eq_true, eqP_iff, eqs_iff (A := A) (B := B), List.cons.injEq]
section
variable {W : Wd} {S : Sg}
theorem ok_peneq {f : Addr} {fd : FuncData} (F : Fd W.K "__eq__" "Pen.__eq__" s_Pen_eq [] f fd) (hK : W.K = S.K) (T : Mb W) (OP : ObC W S 0 "Pen" ["_corners"]) (m_peq : ∃ q, FnM W S 1 q 2 [] REq ∧ PySem.W.findIn W.K (.ref S.cP) "__eq__" = some (some (.ref q)) ∧ PySem.W.isFn W.K (.ref q) = true ∧ PySem.W.notFirst W.K S.cP (.ref S.cP) = true) :
    FnOk W.P W.w W.K W.mg W.base (L2N.CX W.P W.w) 4 f fd ["self", "other"] (spOf S 2 RPEq) := by
  refine def_ok F hK s_Pen_eq_sc (fun ds o h => by obtain ⟨_, _, _, _, rfl, _⟩ := h; rfl) fun X U ds o b h => ?_
  obtain ⟨A, v, B, w, rfl, rfl⟩ := h
  have C := b.C
  obtain ⟨n_self, l_self⟩ := b.nm 0 "self" rfl (.inl rfl) (by decide) (by decide)
  obtain ⟨n_other, l_other⟩ := b.nm 1 "other" rfl (.inl rfl) (by decide) (by decide)
  have g_isinstance := b.ng "isinstance" rfl (by decide)
  have m_isinstance := b.mg T.isinstance
  have g_Pen := b.ng "Pen" rfl (by decide)
  change XB _ _ _ [.v (penS A v), .v (penS B w)] _ _
  obtain ⟨q, F1, f1, f2, f3⟩ := m_peq
  refine' s_cons (s_ret (d := .bl (eqsB eqP (A.map (nP v)) (B.map (nP w)))) (XE.is (e_and (b1 := true) (e_isi C.toKb (e_var (d := penS B w) n_other rfl) ⟨OP.cls, OP.isi⟩ g_isinstance T.isinstance g_Pen OP.gC kitC_self) fun _ => e_one (e_cmp (e_fld C.toKb OP (e_var (d := penS A v) n_self rfl) (by simp) rfl) (e_fld C.toKb OP (e_var (d := penS B w) n_other rfl) (by simp) rfl) (c_lstO (f := eqP) (A0 := S.cP) (n := 1) C F1 f1 f2 ?h1 ?h2 ?h3 ?h4 ?h5 (by decide)))) (congrArg D.bl (Bool.true_and _))) rfl)
  case h1 => intro d hd; obtain ⟨p, _, rfl⟩ := List.mem_map.mp hd; rfl
  case h2 => intro d hd; obtain ⟨p, _, rfl⟩ := List.mem_map.mp hd; exact ⟨S.cP, rfl⟩
  case h3 => intro d hd; obtain ⟨p, _, rfl⟩ := List.mem_map.mp hd; exact f3
  case h4 =>
    intro a ha b hb
    obtain ⟨p, _, rfl⟩ := List.mem_map.mp ha
    obtain ⟨r, _, rfl⟩ := List.mem_map.mp hb
    exact peq_r
  case h5 =>
    intro a ha b hb pins s σ H M u I r1 r2
    obtain ⟨p, _, rfl⟩ := List.mem_map.mp ha
    obtain ⟨r, _, rfl⟩ := List.mem_map.mp hb
    refine eqP_iff.mpr ?_
    exact rep_pt I r1 r2
end

def RPEqL (ds : List D) (o : Out) : Prop := ∃ (A : List PI2) (v : Int) (ls : List D), ds = [penS A v, .lst ls] ∧ o = .ok (.bl false)
section
variable {W : Wd} {S : Sg}
theorem ok_peneqL {f : Addr} {fd : FuncData} (F : Fd W.K "__eq__" "Pen.__eq__" s_Pen_eq [] f fd) (hK : W.K = S.K) (T : Mb W) (OP : ObC W S 0 "Pen" ["_corners"]) (klp : PySem.W.kitOne W.K (.type "list") (.ref (S.cO 0)) = some false) :
    FnOk W.P W.w W.K W.mg W.base (L2N.CX W.P W.w) 4 f fd ["self", "other"] (spOf S 2 RPEqL) := by
  refine def_ok F hK s_Pen_eq_sc (fun ds o h => by obtain ⟨_, _, _, rfl, _⟩ := h; rfl) fun X U ds o b h => ?_
  obtain ⟨A, v, ls, rfl, rfl⟩ := h
  have C := b.C
  obtain ⟨n_self, l_self⟩ := b.nm 0 "self" rfl (.inl rfl) (by decide) (by decide)
  obtain ⟨n_other, l_other⟩ := b.nm 1 "other" rfl (.inl rfl) (by decide) (by decide)
  have g_isinstance := b.ng "isinstance" rfl (by decide)
  have m_isinstance := b.mg T.isinstance
  have g_Pen := b.ng "Pen" rfl (by decide)
  change XB _ _ _ [.v (penS A v), .v (.lst ls)] _ _
  exact s_cons (s_ret (e_and (b1 := false) (b2 := true) (e_isi C.toKb (e_var (d := .lst ls) n_other rfl) trivial g_isinstance T.isinstance g_Pen OP.gC klp) fun z => nomatch z) rfl)
end

abbrev s_Pen_iter : Stmt := inClass (topS 26) 5
theorem s_Pen_iter_sc : FnScope ["self"] ["self"] (defScope s_Pen_iter) := ⟨rfl, rfl, rfl, by decide +kernel, rfl, by decide +kernel, by decide +kernel⟩

abbrev s_law_are_points : Stmt := topS 40
theorem s_law_are_points_sc : FnScope ["_law_points", "_law_spots", "_law_over", "_law_k"] ["_law_points", "_law_spots", "_law_over"] (defScope s_law_are_points) := ⟨rfl, rfl, rfl, by decide +kernel, rfl, by decide +kernel, by decide +kernel⟩
def RArP (ds : List D) (o : Out) : Prop := ∃ (C : List PI2) (v : Int), C.length ≤ 1000 ∧ 0 < v ∧ Bd v 3000 ∧ ds = [.lst (C.map (nP v)), .lst (C.map pairD), .int v] ∧ o = .ok (.bl true)
theorem arp_r {C : List PI2} {v : Int} (h : C.length ≤ 1000) (h1 : 0 < v) (h2 : Bd v 3000) : RArP ([.lst (C.map (nP v)), .lst (C.map pairD), .int v] ++ []) (.ok (.bl true)) := ⟨C, v, h, h1, h2, rfl, rfl⟩
theorem at_map {α : Type} {l : List α} {f : α → D} {i : Nat} (z : α) (h : i < l.length) : atI (l.map f) (i : Int) = some (f (l.getD i z)) := by
  refine Fw.atI_nat ?_
  rw [List.getElem?_map, List.getD_eq_getElem?_getD, List.getElem?_eq_getElem h]
  rfl
section
variable {W : Wd} {S : Sg}
theorem ok_arepoints {f : Addr} {fd : FuncData} (F : Fd W.K "_law_are_points" "_law_are_points" s_law_are_points [] f fd) (hK : W.K = S.K) (T : Mb W) (f_ispoint : Fn W S 6 "_law_is_point" 4 [] RIsPt) :
    FnOk W.P W.w W.K W.mg W.base (L2N.CX W.P W.w) 7 f fd ["_law_points", "_law_spots", "_law_over"] (spOf S 3 RArP) := by
  refine def_ok F hK s_law_are_points_sc (fun ds o h => by obtain ⟨_, _, _, _, _, rfl, _⟩ := h; rfl) fun X U ds o b h => ?_
  obtain ⟨Cs, v, hl, hv, bv, rfl, rfl⟩ := h
  have C := b.C
  obtain ⟨n__law_points, l__law_points⟩ := b.nm 0 "_law_points" rfl (.inl rfl) (by decide) (by decide)
  obtain ⟨n__law_spots, l__law_spots⟩ := b.nm 1 "_law_spots" rfl (.inl rfl) (by decide) (by decide)
  obtain ⟨n__law_over, l__law_over⟩ := b.nm 2 "_law_over" rfl (.inl rfl) (by decide) (by decide)
  obtain ⟨n__law_k, l__law_k⟩ := b.nm 3 "_law_k" rfl (.inl rfl) (by decide) (by decide)
  have g_isinstance := b.ng "isinstance" rfl (by decide)
  have m_isinstance := b.mg T.isinstance
  have g_list := b.ng "list" rfl (by decide)
  have m_list := b.mg T.list
  have g_len := b.ng "len" rfl (by decide)
  have m_len := b.mg T.len
  have g_range := b.ng "range" rfl (by decide)
  have m_range := b.mg T.range
  have g__law_is_point := b.ng "_law_is_point" rfl (by decide)
  change XB _ _ _ [.v (.lst (Cs.map (nP v))), .v (.lst (Cs.map pairD)), .v (.int v), .no] _ _
  have e1 : (Cs.map (nP v)).length = Cs.length := List.length_map ..
  have e2 : (Cs.map pairD).length = Cs.length := List.length_map ..
  have hd : (!true || !decide (((Cs.map (nP v)).length : Int) = ((Cs.map pairD).length : Int))) = false := by rw [e1, e2]; simp
  refine' s_cons (s_if (b := false) (XT.is ?t1 hd) (fun z => nomatch z) (fun _ => s_nil ?k1))
  case t1 => walk_at "tx"
  refine s_mid (fun g => ∃ z : Sl, g = [.v (.lst (Cs.map (nP v))), .v (.lst (Cs.map pairD)), .v (.int v), z]) ?lp ?fin
  case fin =>
    rintro g ⟨z, rfl⟩
    exact s_cons (s_ret e_bl rfl)
  case lp =>
    refine' s_for C (i_range1 (j := ((Cs.map pairD).length : Int)) g_range m_range (a_cons (e_callB (k_lenL C.toKb) g_len m_len PyProof.Rows.Boot.«len» (a_cons (e_var n__law_spots rfl) a_nil)) a_nil) ⟨by omega, by omega⟩) (fun i g => ∃ z : Sl, g = [.v (.lst (Cs.map (nP v))), .v (.lst (Cs.map pairD)), .v (.int v), z]) ⟨.no, rfl⟩ ?hs (fun g h => h)
    rintro i g hi ⟨z, rfl⟩
    rw [Int.toNat_natCast, e2] at hi
    have a1 := at_map (f := nP v) (0, 0) hi
    have a2 := at_map (f := pairD) (0, 0) hi
    have e0 : (0 : Int) + (i : Int) = (i : Int) := by omega
    refine ⟨_, g_name C.toKb l__law_k, ?_⟩
    dsimp only [List.set_cons_succ, List.set_cons_zero]
    rw [e0]
    generalize Cs.getD i (0, 0) = p at a1 a2
    obtain ⟨p1, p2⟩ := p
    refine' s_cons (s_if (b := false) (XT.is (t_not (bb := true) (t_val (e_call C f_ispoint g__law_is_point (a_cons (d := nP v (p1, p2)) (e_ix (e_var n__law_points rfl) (e_var n__law_k rfl) (x_lst C.toKb a1)) (a_cons (d := .int p1) (e_ix (e_ix (e_var n__law_spots rfl) (e_var n__law_k rfl) (x_lst C.toKb a2)) e_int (x_tup C.toKb rfl)) (a_cons (d := .int p2) (e_ix (e_ix (e_var n__law_spots rfl) (e_var n__law_k rfl) (x_lst C.toKb a2)) e_int (x_tup C.toKb rfl)) (a_cons (d := .int v) (e_var n__law_over rfl) a_nil)))) (isp_r (b := bv) rfl hv (by decide))))) rfl) (fun z => nomatch z) (fun _ => s_nil (s_nil ⟨_, rfl⟩)))
end

abbrev s_law_shows : Stmt := topS 42
theorem s_law_shows_sc : FnScope ["_law_pen", "_law_spots", "_law_over", "_law_listed", "_law_corner"] ["_law_pen", "_law_spots", "_law_over"] (defScope s_law_shows) := ⟨rfl, rfl, rfl, by decide +kernel, rfl, by decide +kernel, by decide +kernel⟩
def RShw (ds : List D) (o : Out) : Prop := ∃ (C : List PI2) (v : Int), C.length ≤ 1000 ∧ 0 < v ∧ Bd v 3000 ∧ ds = [penS C v, .lst (C.map pairD), .int v] ∧ o = .ok (.bl true)
theorem shw_r {C : List PI2} {v : Int} (h : C.length ≤ 1000) (h1 : 0 < v) (h2 : Bd v 3000) : RShw ([penS C v, .lst (C.map pairD), .int v] ++ []) (.ok (.bl true)) := ⟨C, v, h, h1, h2, rfl, rfl⟩
section
variable {W : Wd} {S : Sg}
theorem ok_shows {f : Addr} {fd : FuncData} (F : Fd W.K "_law_shows" "_law_shows" s_law_shows [] f fd) (hK : W.K = S.K) (T : Mb W) (OP : ObC W S 0 "Pen" ["_corners"]) (p_corners : PropO W S 0 "corners" 1 RGet) (IT : IterC W S 0 "_corners") (f_arepoints : Fn W S 7 "_law_are_points" 3 [] RArP) :
    FnOk W.P W.w W.K W.mg W.base (L2N.CX W.P W.w) 8 f fd ["_law_pen", "_law_spots", "_law_over"] (spOf S 3 RShw) := by
  refine def_ok F hK s_law_shows_sc (fun ds o h => by obtain ⟨_, _, _, _, _, rfl, _⟩ := h; rfl) fun X U ds o b h => ?_
  obtain ⟨Cs, v, h1, h2, h3, rfl, rfl⟩ := h
  have C := b.C
  obtain ⟨n__law_pen, l__law_pen⟩ := b.nm 0 "_law_pen" rfl (.inl rfl) (by decide) (by decide)
  obtain ⟨n__law_spots, l__law_spots⟩ := b.nm 1 "_law_spots" rfl (.inl rfl) (by decide) (by decide)
  obtain ⟨n__law_over, l__law_over⟩ := b.nm 2 "_law_over" rfl (.inl rfl) (by decide) (by decide)
  obtain ⟨n__law_listed, l__law_listed⟩ := b.nm 3 "_law_listed" rfl (.inl rfl) (by decide) (by decide)
  have g__law_are_points := b.ng "_law_are_points" rfl (by decide)
  change XB _ _ _ [.v (penS Cs v), .v (.lst (Cs.map pairD)), .v (.int v), .no, .no] _ _
  have blk : ∀ sc2 own, blkC X.N (defScope s_law_shows) sc2 own = true → BlkOk X.N X.env.scope sc2 own := fun sc2 own h => by rw [b.sc]; exact blkOk_by h
  refine' s_cons (lc_copyS (ds := Cs.map (nP v)) (x := "_law_corner") (ix := 4) C (by rw [List.length_map]; omega) l__law_listed (by rw [b.sc]; rfl) (i_own C IT (e_var n__law_pen rfl) rfl (by decide)) (blk _ _ (by rw [b.N]; rfl)) (by rw [b.N]; rfl) rfl (Nat.le_of_ble_eq_true rfl) ?k1 (sw_true (by rw [b.sc]; rfl) (by rw [b.sc]; rfl) rfl rfl))
  dsimp only [List.set_cons_succ, List.set_cons_zero]
  refine b_freeze 3 rfl ?_
  dsimp only [List.set_cons_succ, List.set_cons_zero]
  refine' s_cons (s_ret (d := .bl true) (e_and (b1 := true) ?x1 fun _ => e_one ?x2) rfl)
  case x1 => exact e_call C f_arepoints g__law_are_points (a_cons (d := .lst (Cs.map (nP v))) (e_oprop C OP p_corners (e_var n__law_pen rfl) ⟨Cs.map (nP v), rfl, rfl⟩) (a_cons (e_var n__law_spots rfl) (a_cons (e_var n__law_over rfl) a_nil))) (arp_r h1 h2 h3)
  case x2 => exact e_call C f_arepoints g__law_are_points (a_cons (d := .lst (Cs.map (nP v))) (e_var n__law_listed rfl) (a_cons (e_var n__law_spots rfl) (a_cons (e_var n__law_over rfl) a_nil))) (arp_r h1 h2 h3)
end

abbrev s_law : Stmt := topS 43
theorem s_law_sc : FnScope ["_law_script", "_law_pool", "_law_spots", "_law_over", "_law_other_pool", "_law_others", "_law_low", "_law_start", "_law_handed", "_law_pen", "_law_told", "_law_twin", "_law_second", "_law_alike", "_law_turned", "_law_changed", "_law_spot"] ["_law_script"] (defScope s_law) := ⟨rfl, rfl, rfl, by decide +kernel, rfl, by decide +kernel, by decide +kernel⟩
theorem lay_map {α : Type} {f : α → D} (h : ∀ a, (pdOf (f a)).canLay0 = true) : ∀ l : List α, PyData.canLayAll0 (pdsOf (l.map f)) = true
  | [] => by simp [pdsOf, PyData.canLayAll0]
  | a :: l => by
    rw [List.map_cons, pdsOf, PyData.canLayAll0, h a, lay_map h l]
    rfl
theorem depth_map {α : Type} {f : α → D} {n : Nat} (h : ∀ a, (pdOf (f a)).depth ≤ n) : ∀ l : List α, PyData.depthAll (pdsOf (l.map f)) ≤ n
  | [] => by simp [pdsOf, PyData.depthAll]
  | a :: l => by
    have h1 := h a
    have h2 := depth_map h l
    rw [List.map_cons, pdsOf]
    simp only [PyData.depthAll]
    omega
theorem flat_map {α : Type} {f : α → D} (h : ∀ a, flat (f a) = true) : ∀ l : List α, flats (l.map f) = true
  | [] => rfl
  | a :: l => by
    rw [List.map_cons, flats, h a, flat_map h l]
    rfl
/-- the law's name of a point -/
def termP (v : Int) (p : PI2) : D := termsT p.1 p.2 v
theorem term_eqv {v w : Int} {p q : PI2} : PyData.eqv (pdOf (termP v p)) (pdOf (termP w q)) = eqP (nP v p) (nP w q) := by
  show (((p.1 / g3 p.1 p.2 v) == (q.1 / g3 q.1 q.2 w)) && (((p.2 / g3 p.1 p.2 v) == (q.2 / g3 q.1 q.2 w)) && (((v / g3 p.1 p.2 v) == (w / g3 q.1 q.2 w)) && true))) = (true && (decide (p.1 / g3 p.1 p.2 v = q.1 / g3 q.1 q.2 w) && (decide (p.2 / g3 p.1 p.2 v = q.2 / g3 q.1 q.2 w) && decide (v / g3 p.1 p.2 v = w / g3 q.1 q.2 w))))
  rw [Bool.true_and, Bool.and_true]
  rfl
theorem terms_eqv {v w : Int} : ∀ {A B : List PI2}, PyData.eqv (pdOf (.lst (A.map (termP v)))) (pdOf (.lst (B.map (termP w)))) = eqsB eqP (A.map (nP v)) (B.map (nP w))
  | [], [] => rfl
  | [], _ :: _ => rfl
  | _ :: _, [] => rfl
  | p :: A, q :: B => by
    have ih := terms_eqv (v := v) (w := w) (A := A) (B := B)
    show (PyData.eqv (pdOf (termP v p)) (pdOf (termP w q)) && PyData.eqv (pdOf (.lst (A.map (termP v)))) (pdOf (.lst (B.map (termP w))))) = _
    rw [ih, term_eqv]
    rfl
theorem terms_flat {v : Int} (A : List PI2) : flat (.lst (A.map (termP v))) = true := flat_map (f := termP v) (fun _ => rfl) A
theorem terms_shaped {v : Int} (A : List PI2) : SeqAt.shaped (pdOf (.lst (A.map (termP v)))) = true := by
  have h0 : PyData.canLayAll0 (pdsOf (A.map (termP v))) = true := lay_map (f := termP v) (fun _ => by simp [termP, termsT, pdOf, pdsOf, PyData.canLay0, PyData.canLayAll0]) A
  have h1 : PyData.canLay0 (pdOf (.lst (A.map (termP v)))) = true := by
    show PyData.canLay0 (.list (pdsOf (A.map (termP v)))) = true
    rw [PyData.canLay0, h0]
  have h : PyData.depthAll (pdsOf (A.map (termP v))) ≤ 3 := depth_map (f := termP v) (fun _ => by simp [termP, termsT, pdOf, pdsOf, PyData.depth, PyData.depthAll]) A
  have h2 : PyData.depth (pdOf (.lst (A.map (termP v)))) ≤ 64 := by
    show PyData.depth (.list (pdsOf (A.map (termP v)))) ≤ 64
    simp only [PyData.depth]
    omega
  show (PyData.canLay0 (pdOf (.lst (A.map (termP v)))) && decide (PyData.depth (pdOf (.lst (A.map (termP v)))) ≤ 64)) = true
  rw [h1, decide_eq_true h2]
  rfl
theorem eqs_comm {A B : List PI2} {v w : Int} : eqsB eqP (B.map (nP w)) (A.map (nP v)) = eqsB eqP (A.map (nP v)) (B.map (nP w)) := by
  rw [Bool.eq_iff_iff, eqs_iff, eqs_iff]
  exact eq_comm
theorem eqs_self {A : List PI2} {v : Int} : eqsB eqP (A.map (nP v)) (A.map (nP v)) = true := eqs_iff.mpr rfl
theorem rot_pairs {C : List PI2} {k : Nat} {f : PI2 → D} : (C.map f).drop k ++ (C.map f).take k = (rot C k).map f := by
  unfold rot
  rw [List.map_append, List.map_drop, List.map_take]
theorem past_ptsN {S : Sg} {c : Nat} (L : List PI2) {v : Int} : Pasts S c (L.map (nP v)) := by
  induction L with
  | nil => exact True.intro
  | cons p L ih => exact ⟨True.intro, ih⟩
theorem cons_of {L : List D} (h : L ≠ []) : ∃ d r, L = d :: r := by
  cases L with
  | nil => exact absurd rfl h
  | cons d r => exact ⟨d, r, rfl⟩
section
variable {W : Wd} {S : Sg}
theorem ok_law {f : Addr} {fd : FuncData} (F : Fd W.K "law" "law" s_law [] f fd) (hK : W.K = S.K) (T : Mb W) (TP : PtC W S) (OP : ObC W S 0 "Pen" ["_corners"]) (PM : PenM W S) (neP : S.cO 0 ≠ S.cP) (f_nth : Fn W S 1 "_law_nth" 2 [] RNth) (f_draws : Fn W S 1 "_law_draws" 2 [] RDraws) (f_same : Fn W S 4 "_law_same" 2 [] (RSame 3))
    (f_over : Fn W S 1 "_law_draw_over" 2 [] ROver) (f_drawshape : Fn W S 4 "_law_draw_shape" 1 [] RShp) (f_made : Fn W S 5 "_law_made_points" 2 [] RMade) (f_madeN : Fn W S 5 "_law_made_points" 2 [] RMadeN) (f_arepoints : Fn W S 7 "_law_are_points" 3 [] RArP) (f_interms : Fn W S 2 "_law_in_terms" 3 [] RTerms) (f_shows : Fn W S 8 "_law_shows" 3 [] RShw)
    (f_pt : PtI W S 3 3 [] RPt) (f_pt2 : PtI W S 3 2 [.int 1] RPt) (f_pen : ObI W S 0 "Pen" 6 1 [] RPen) (f_penN : ObIN W S 0 "Pen" 6 1 "_corners" ROrdL) (x_changeN : MutN W S 0 "change" 9 2 "_corners" ROrdL) (m_pengetN : PropO W S 0 "corners" 1 RGetN) (m_penget : PropO W S 0 "corners" 1 RGet)
    (e_pen : ∃ q, FnM W S 4 q 2 [] RPEq ∧ FnM W S 4 q 2 [] RPEqL ∧ PySem.W.findIn W.K (.ref (S.cO 0)) "__eq__" = some (some (.ref q)) ∧ PySem.W.isFn W.K (.ref q) = true ∧ PySem.W.notFirst W.K (S.cO 0) (.ref (S.cO 0)) = true ∧ PySem.W.notFirst W.K (S.cO 0) (.type "list") = true) :
    FnOk W.P W.w W.K W.mg W.base (L2N.CX W.P W.w) 12 f fd ["_law_script"] (spOf S 1 RLaw) := by
  refine def_ok F hK s_law_sc (fun ds o h => by obtain ⟨_, _, rfl, _⟩ := h; rfl) fun X U ds o b h => ?_
  obtain ⟨ns, hn, rfl, rfl⟩ := h
  have C := b.C
  obtain ⟨n__law_script, l__law_script⟩ := b.nm 0 "_law_script" rfl (.inl rfl) (by decide) (by decide)
  obtain ⟨n__law_pool, l__law_pool⟩ := b.nm 1 "_law_pool" rfl (.inl rfl) (by decide) (by decide)
  obtain ⟨n__law_spots, l__law_spots⟩ := b.nm 2 "_law_spots" rfl (.inl rfl) (by decide) (by decide)
  obtain ⟨n__law_over, l__law_over⟩ := b.nm 3 "_law_over" rfl (.inr rfl) (by decide) (by decide)
  obtain ⟨n__law_other_pool, l__law_other_pool⟩ := b.nm 4 "_law_other_pool" rfl (.inl rfl) (by decide) (by decide)
  obtain ⟨n__law_others, l__law_others⟩ := b.nm 5 "_law_others" rfl (.inl rfl) (by decide) (by decide)
  obtain ⟨n__law_low, l__law_low⟩ := b.nm 6 "_law_low" rfl (.inr rfl) (by decide) (by decide)
  obtain ⟨n__law_start, l__law_start⟩ := b.nm 7 "_law_start" rfl (.inl rfl) (by decide) (by decide)
  obtain ⟨n__law_handed, l__law_handed⟩ := b.nm 8 "_law_handed" rfl (.inl rfl) (by decide) (by decide)
  obtain ⟨n__law_pen, l__law_pen⟩ := b.nm 9 "_law_pen" rfl (.inl rfl) (by decide) (by decide)
  obtain ⟨n__law_told, l__law_told⟩ := b.nm 10 "_law_told" rfl (.inl rfl) (by decide) (by decide)
  obtain ⟨n__law_twin, l__law_twin⟩ := b.nm 11 "_law_twin" rfl (.inl rfl) (by decide) (by decide)
  obtain ⟨n__law_second, l__law_second⟩ := b.nm 12 "_law_second" rfl (.inl rfl) (by decide) (by decide)
  obtain ⟨n__law_alike, l__law_alike⟩ := b.nm 13 "_law_alike" rfl (.inl rfl) (by decide) (by decide)
  obtain ⟨n__law_turned, l__law_turned⟩ := b.nm 14 "_law_turned" rfl (.inl rfl) (by decide) (by decide)
  obtain ⟨n__law_changed, l__law_changed⟩ := b.nm 15 "_law_changed" rfl (.inl rfl) (by decide) (by decide)
  have g__law_draws := b.ng "_law_draws" rfl (by decide)
  have g__law_nth := b.ng "_law_nth" rfl (by decide)
  have g__law_draw_shape := b.ng "_law_draw_shape" rfl (by decide)
  have g__law_draw_over := b.ng "_law_draw_over" rfl (by decide)
  have g_int := b.ng "int" rfl (by decide)
  have m_int := b.mg T.int
  have g_len := b.ng "len" rfl (by decide)
  have m_len := b.mg T.len
  have g__law_made_points := b.ng "_law_made_points" rfl (by decide)
  have g_Pen := b.ng "Pen" rfl (by decide)
  have g__law_are_points := b.ng "_law_are_points" rfl (by decide)
  have g__law_shows := b.ng "_law_shows" rfl (by decide)
  have g_Point := b.ng "Point" rfl (by decide)
  have g__law_same := b.ng "_law_same" rfl (by decide)
  change XB _ _ _ [.v (.lst (ns.map D.int)), .no, .no, .no, .no, .no, .no, .no, .no, .no, .no, .no, .no, .no, .no, .no, .no] _ _
  have blk : ∀ sc2 own, blkC X.N (defScope s_law) sc2 own = true → BlkOk X.N X.env.scope sc2 own := fun sc2 own h => by rw [b.sc]; exact blkOk_by h
  obtain ⟨q, F1, FL, e1, e2, e3, e4⟩ := e_pen
  walk_at "asg"
  generalize hL : drawsOf (ns.getD (Int.toNat 0) 0) (Int.toNat 24) = L
  have hp : pool L := by rw [← hL]; exact drawsOf_in
  have hl : L.length = 24 := by rw [← hL]; exact drawsOf_len
  clear hL
  walk_at "asg"
  walk_at "asg"
  walk_at "asg"
  generalize hM : drawsOf (ns.getD (Int.toNat 1) 0) (Int.toNat 24) = M
  have hpM : pool M := by rw [← hM]; exact drawsOf_in
  have hlM : M.length = 24 := by rw [← hM]; exact drawsOf_len
  clear hM
  walk_at "asg"
  walk_at "asg"
  have bo := overL_in (a := 20) hp
  have bo2 := overL_in (a := 20) hpM
  have P : PenOk (shapeI L) (overL L 20) := shape_ok hp bo.1 bo.2
  have Q : PenOk (shapeI M) (overL M 20) := shape_ok hpM bo2.1 bo2.2
  generalize overL L 20 = v at bo P ⊢
  generalize overL M 20 = w at bo2 Q ⊢
  generalize shapeI L = A at P ⊢
  generalize shapeI M = B at Q ⊢
  have hv := P.pos
  have hw := Q.pos
  haveI bv : Bd v 10 := ⟨by omega⟩
  haveI bw : Bd w 10 := ⟨by omega⟩
  have vA : Bd v 3000 := P.bv
  have vB : Bd w 3000 := Q.bv
  have fA := P.few
  have fB := Q.few
  obtain ⟨p0, RA⟩ := P.ring
  obtain ⟨q0, RB⟩ := Q.ring
  have lA : 0 < A.length := List.length_pos_iff.mpr P.ne
  have lB : 0 < B.length := List.length_pos_iff.mpr Q.ne
  -- the corners from any one on
  have hs0 : 0 ≤ ns.getD (Int.toNat 2) 0 % (A.length : Int) := Int.emod_nonneg _ (by omega)
  have hs1 : ns.getD (Int.toNat 2) 0 % (A.length : Int) < (A.length : Int) := Int.emod_lt_of_pos _ (by omega)
  obtain ⟨k, hk⟩ : ∃ k : Nat, ns.getD (Int.toNat 2) 0 % (A.length : Int) = (k : Int) := ⟨_, (Int.toNat_of_nonneg hs0).symm⟩
  rw [hk] at hs1
  have hkA : k < A.length := by omega
  have lmA : (A.map pairD).length = A.length := List.length_map ..
  refine' s_cons (s_asg C.toKb l__law_start (d := .int (k : Int)) (XE.is (e_bin (e_callT k_int g_int m_int PyProof.Rows.Boot.«int» (a_cons (e_call C f_nth g__law_nth (a_cons (d := .lst (ns.map D.int)) (e_var n__law_script rfl) (a_cons e_int a_nil)) (nth_r (by decide))) a_nil)) (e_callB (k_lenL C.toKb) g_len m_len PyProof.Rows.Boot.«len» (a_cons (d := .lst (A.map pairD)) (e_var n__law_spots rfl) a_nil)) (b_mod (by rw [lmA]; omega))) (congrArg D.int (by rw [lmA]; exact hk))) ?k1)
  dsimp only [List.set_cons_succ, List.set_cons_zero]
  have ordA := ord_ring RA hkA fA P.bd hv vA
  have k2B : B.length / 2 < B.length := by omega
  have ordB := ord_ring RB k2B fB Q.bd hw vB
  have rlA : (rot A k).length = A.length := rot_len hkA
  have rlB : (rot B (B.length / 2)).length = B.length := rot_len k2B
  have ecA : cutD (A.map pairD) (some (k : Int)) none ++ cutD (A.map pairD) none (some (k : Int)) = (rot A k).map pairD := by rw [cut_drop (by rw [lmA]; omega), cut_take (by rw [lmA]; omega), rot_pairs]
  have lcA : (cutD (A.map pairD) (some (k : Int)) none).length + (cutD (A.map pairD) none (some (k : Int))).length ≤ 100000 := by
    rw [← List.length_append, ecA, List.length_map, rlA]
    omega
  have lmB : (B.map pairD).length = B.length := List.length_map ..
  have ecB : cutD (B.map pairD) (some ((B.length / 2 : Nat) : Int)) none ++ cutD (B.map pairD) none (some ((B.length / 2 : Nat) : Int)) = (rot B (B.length / 2)).map pairD := by rw [cut_drop (by rw [lmB]; omega), cut_take (by rw [lmB]; omega), rot_pairs]
  have lcB : (cutD (B.map pairD) (some ((B.length / 2 : Nat) : Int)) none).length + (cutD (B.map pairD) none (some ((B.length / 2 : Nat) : Int))).length ≤ 100000 := by
    rw [← List.length_append, ecB, List.length_map, rlB]
    omega
  refine' s_cons (s_asgF C.toKb l__law_handed (f_call C f_madeN g__law_made_points (a_cons (d := .lst ((rot A k).map pairD)) (XE.is (n_e (n_catA C.toKb (n_e (n_cut C.toKb (e_var n__law_spots rfl) (o_some (e_var n__law_start rfl)) o_none)) (n_e (n_cut C.toKb (e_var n__law_spots rfl) o_none (o_some (e_var n__law_start rfl)))) lcA)) (congrArg D.lst ecA)) (a_cons (d := .int v) (e_var n__law_over rfl) a_nil)) (madeN_r (b1 := bv) hv (by omega) (by decide))) ?k2)
  dsimp only [List.set_cons_succ, List.set_cons_zero]
  refine' s_cons (s_asgObN (i2 := 8) C l__law_pen f_penN g_Pen rfl (a_cons (d := .lst ((rot A k).map (nP v))) (e_var n__law_handed rfl) a_nil) ordA (fun ap dx => ?k3))
  dsimp only [List.set_cons_succ, List.set_cons_zero]
  have arA : RArP ([.lst ((rot A k).map (nP v)), .lst ((rot A k).map pairD), .int v] ++ []) (.ok (.bl true)) := arp_r (by omega) hv vA
  have swA : RShw ([penS A v, .lst (A.map pairD), .int v] ++ []) (.ok (.bl true)) := shw_r (by omega) hv vA
  have swB : RShw ([penS B w, .lst (B.map pairD), .int w] ++ []) (.ok (.bl true)) := shw_r (by omega) hw vB
  refine' s_cons (s_if (b := false) (t_view (i := 9) rfl (t_viewL (i := 8) rfl (XT.is (t_w (w_or (b1 := false) (t_not (bb := true) (t_val ?p1)) fun _ => w_or1 (bb := false) (t_not (bb := true) (t_val ?p2)))) rfl))) (fun z => nomatch z) (fun _ => s_nil ?k4))
  case p1 => exact e_call C f_arepoints g__law_are_points (a_cons (d := .lst ((rot A k).map (nP v))) (e_var n__law_handed rfl) (a_cons (d := .lst ((rot A k).map pairD)) (XE.is (n_e (n_catA C.toKb (n_e (n_cut C.toKb (e_var n__law_spots rfl) (o_some (e_var n__law_start rfl)) o_none)) (n_e (n_cut C.toKb (e_var n__law_spots rfl) o_none (o_some (e_var n__law_start rfl)))) lcA)) (congrArg D.lst ecA)) (a_cons (d := .int v) (e_var n__law_over rfl) a_nil))) arA
  case p2 => exact e_call C f_shows g__law_shows (a_cons (d := penS A v) (e_var n__law_pen rfl) (a_cons (d := .lst (A.map pairD)) (e_var n__law_spots rfl) (a_cons (d := .int v) (e_var n__law_over rfl) a_nil))) swA
  -- the list handed in changes
  refine' s_cons (s_app C.toKb n__law_handed rfl (d := normP 1 2 3) ?x1 (by rw [List.length_map]; omega) ?k5)
  case x1 => walk_at "ex"
  dsimp only [List.set_cons_succ, List.set_cons_zero]
  obtain ⟨h1, hr, eh⟩ := cons_of (L := (rot A k).map (nP v) ++ [normP 1 2 3]) (by simp)
  rw [eh]
  refine' s_cons (s_pop0 C.toKb n__law_handed rfl e_int ?k6)
  dsimp only [List.set_cons_succ, List.set_cons_zero]
  clear eh
  refine' s_cons (s_asgF C.toKb l__law_told (f_view (i := 9) neP rfl (f_oprop C OP m_pengetN (e_var (d := penS A v) n__law_pen rfl) ⟨A.map (nP v), rfl, rfl⟩) (past_ptsN A)) ?k7)
  dsimp only [List.set_cons_succ, List.set_cons_zero]
  refine' s_cons (s_app C.toKb n__law_told rfl (d := normP 5 7 1) ?x2 (by rw [List.length_map]; omega) ?k8)
  case x2 => walk_at "ex"
  dsimp only [List.set_cons_succ, List.set_cons_zero]
  obtain ⟨t1, tr, et⟩ := cons_of (L := A.map (nP v) ++ [normP 5 7 1]) (by simp)
  rw [et]
  refine' s_cons (s_pop0 C.toKb n__law_told rfl e_int ?k9)
  dsimp only [List.set_cons_succ, List.set_cons_zero]
  clear et
  refine' s_cons (s_if (b := false) (t_view (i := 9) rfl (XT.is (t_w (w_or (b1 := false) (t_not (bb := true) (t_val ?p3)) fun _ => w_or (b1 := false) (t_cmp (e_most C.toKb PM g_Pen) e_int c_ne) fun _ => w_or1 (bb := false) (t_not (bb := true) (t_val ?p4)))) rfl)) (fun z => nomatch z) (fun _ => s_nil ?k10))
  case p3 => exact e_call C f_shows g__law_shows (a_cons (d := penS A v) (e_var n__law_pen rfl) (a_cons (d := .lst (A.map pairD)) (e_var n__law_spots rfl) (a_cons (d := .int v) (e_var n__law_over rfl) a_nil))) swA
  case p4 => exact e_call C f_same g__law_same (a_cons (d := .int 64) (e_most C.toKb PM g_Pen) (a_cons (d := .int 64) e_int a_nil)) (same_r rfl rfl (Nat.zero_le _))
  refine' s_cons (s_asg C.toKb l__law_twin (d := penS A v) (e_ob C f_pen g_Pen (a_cons (d := .lst (A.map (nP v))) (e_call C f_made g__law_made_points (a_cons (d := .lst (A.map pairD)) (e_var n__law_spots rfl) (a_cons (d := .int v) (e_var n__law_over rfl) a_nil)) (made_r (b1 := bv) hv (by omega) (by decide))) a_nil) (pen_r P)) ?k11)
  dsimp only [List.set_cons_succ, List.set_cons_zero]
  refine' s_cons (s_asg C.toKb l__law_second (d := penS B w) (e_ob C f_pen g_Pen (a_cons (d := .lst (B.map (nP w))) (e_call C f_made g__law_made_points (a_cons (d := .lst (B.map pairD)) (e_var n__law_others rfl) (a_cons (d := .int w) (e_var n__law_low rfl) a_nil)) (made_r (b1 := bw) hw (by omega) (by decide))) a_nil) (pen_r Q)) ?k12)
  dsimp only [List.set_cons_succ, List.set_cons_zero]
  refine' s_cons (s_asg C.toKb l__law_alike (d := .bl (eqsB eqP (A.map (nP v)) (B.map (nP w)))) (XE.is (e_cmp (da := .lst (A.map (termP v))) (db := .lst (B.map (termP w))) (n_e (lc_map (l := A) (da := pairD) (f := termP v) (0, 0) (x := "_law_spot") (ix := 16) C (by omega) (e_var n__law_spots rfl) (blk _ _ (by rw [b.N]; rfl)) (by rw [b.N]; rfl) rfl ?hel1)) (n_e (lc_map (l := B) (da := pairD) (f := termP w) (0, 0) (x := "_law_spot") (ix := 16) C (by omega) (e_var n__law_others rfl) (blk _ _ (by rw [b.N]; rfl)) (by rw [b.N]; rfl) rfl ?hel2)) (c_eqD C.toKb C.hu (terms_flat A) (terms_flat B) (terms_shaped A) (terms_shaped B))) (congrArg D.bl terms_eqv)) ?k13)
  case hel1 =>
    intro X' bk p hp'
    have C' := bk.C
    have n_s := bk.own 16 "_law_spot" (by rw [b.N]; rfl) rfl (by decide) (by decide)
    have n_o := bk.caught 3 "_law_over" (by rw [b.N]; rfl) rfl (by decide) (by decide)
    have g_t := bk.glob "_law_in_terms" rfl (by decide)
    exact e_call C' f_interms g_t (a_cons (d := .int p.1) (e_ix (e_var (d := pairD p) n_s rfl) e_int (x_tup C'.toKb rfl)) (a_cons (d := .int p.2) (e_ix (e_var (d := pairD p) n_s rfl) e_int (x_tup C'.toKb rfl)) (a_cons (d := .int v) (e_var n_o rfl) a_nil))) (terms_r (b := bv) hv (by decide))
  case hel2 =>
    intro X' bk p hp'
    have C' := bk.C
    have n_s := bk.own 16 "_law_spot" (by rw [b.N]; rfl) rfl (by decide) (by decide)
    have n_o := bk.caught 6 "_law_low" (by rw [b.N]; rfl) rfl (by decide) (by decide)
    have g_t := bk.glob "_law_in_terms" rfl (by decide)
    exact e_call C' f_interms g_t (a_cons (d := .int p.1) (e_ix (e_var (d := pairD p) n_s rfl) e_int (x_tup C'.toKb rfl)) (a_cons (d := .int p.2) (e_ix (e_var (d := pairD p) n_s rfl) e_int (x_tup C'.toKb rfl)) (a_cons (d := .int w) (e_var n_o rfl) a_nil))) (terms_r (b := bw) hw (by decide))
  dsimp only [List.set_cons_succ, List.set_cons_zero]
  have sA := eqs_self (A := A) (v := v)
  have sB := eqs_self (A := B) (v := w)
  have sC := eqs_comm (A := A) (B := B) (v := v) (w := w)
  generalize hal : eqsB eqP (A.map (nP v)) (B.map (nP w)) = al at sC ⊢
  refine' s_cons (s_if (b := false) (t_view (i := 9) rfl (XT.is (t_w (w_or (b1 := false) (t_not (bb := true) (t_val ?p5)) fun _ => w_or (b1 := false) (t_not (bb := true) (t_val ?p6)) fun _ => w_or1 (bb := false) (t_not (bb := true) (t_val ?p7)))) rfl)) (fun z => nomatch z) (fun _ => s_nil ?k14))
  case p5 => exact e_call C f_same g__law_same (a_cons (d := .bl true) (XE.is (e_cmp (e_var (d := penS A v) n__law_pen rfl) (e_var (d := penS A v) n__law_twin rfl) (c_own (op := .Eq) C F1 rfl e1 e2 e3 peq2_r (by decide))) (congrArg D.bl sA)) (a_cons (d := .bl true) e_bl a_nil)) (same_r rfl rfl (Nat.zero_le _))
  case p6 => exact e_call C f_same g__law_same (a_cons (d := .bl al) (XE.is (e_cmp (e_var (d := penS A v) n__law_pen rfl) (e_var (d := penS B w) n__law_second rfl) (c_own (op := .Eq) C F1 rfl e1 e2 e3 peq2_r (by decide))) (congrArg D.bl hal)) (a_cons (d := .bl al) (e_var n__law_alike rfl) a_nil)) (same_r rfl rfl (Nat.zero_le _))
  case p7 => exact e_call C f_same g__law_same (a_cons (d := .bl al) (XE.is (e_cmp (e_var (d := penS B w) n__law_second rfl) (e_var (d := penS A v) n__law_pen rfl) (c_own (op := .Eq) C F1 rfl e1 e2 e3 peq2_r (by decide))) (congrArg D.bl sC)) (a_cons (d := .bl al) (e_var n__law_alike rfl) a_nil)) (same_r rfl rfl (Nat.zero_le _))
  refine' s_cons (s_if (b := false) (t_view (i := 9) rfl (XT.is (t_not (bb := true) (t_val ?p8)) rfl)) (fun z => nomatch z) (fun _ => s_nil ?k15))
  case p8 => exact e_call C f_same g__law_same (a_cons (d := .bl false) (e_cmp (e_var (d := penS A v) n__law_pen rfl) (e_oprop C OP m_penget (e_var (d := penS A v) n__law_pen rfl) ⟨A.map (nP v), rfl, rfl⟩) (c_own (op := .Eq) C FL rfl e1 e2 e4 ⟨A, v, _, rfl, rfl⟩ (by decide))) (a_cons (d := .bl false) e_bl a_nil)) (same_r rfl rfl (Nat.zero_le _))
  have eh2 : ((B.map pairD).length : Int) / 2 = ((B.length / 2 : Nat) : Int) := by rw [lmB]; omega
  refine' s_cons (s_asg C.toKb l__law_turned (d := .lst ((rot B (B.length / 2)).map pairD)) (XE.is (n_e (n_catA C.toKb (n_e (n_cut C.toKb (e_var n__law_others rfl) (o_some ?h1) o_none)) (n_e (n_cut C.toKb (e_var n__law_others rfl) o_none (o_some ?h2))) lcB)) (congrArg D.lst ecB)) ?k16)
  case h1 => exact XE.is (e_bin (e_callB (k_lenL C.toKb) g_len m_len PyProof.Rows.Boot.«len» (a_cons (d := .lst (B.map pairD)) (e_var n__law_others rfl) a_nil)) e_int (b_fdiv (cdiv (by decide) (by decide)))) (congrArg D.int eh2)
  case h2 => exact XE.is (e_bin (e_callB (k_lenL C.toKb) g_len m_len PyProof.Rows.Boot.«len» (a_cons (d := .lst (B.map pairD)) (e_var n__law_others rfl) a_nil)) e_int (b_fdiv (cdiv (by decide) (by decide)))) (congrArg D.int eh2)
  dsimp only [List.set_cons_succ, List.set_cons_zero]
  refine' s_cons (s_asgF C.toKb l__law_changed (f_call C f_madeN g__law_made_points (a_cons (d := .lst ((rot B (B.length / 2)).map pairD)) (e_var n__law_turned rfl) (a_cons (d := .int w) (e_var n__law_low rfl) a_nil)) (madeN_r (b1 := bw) hw (by omega) (by decide))) ?k17)
  dsimp only [List.set_cons_succ, List.set_cons_zero]
  refine' s_cons (s_ifM (b := false) (t_wM (w_orM (t_isnotM (m_new (i := 9) (i2 := 15) C OP x_changeN n__law_pen rfl rfl (by decide) rfl (a_cons (d := .lst ((rot B (B.length / 2)).map (nP w))) (e_var n__law_changed rfl) a_nil) ordB)) (w_or1 (bb := false) (t_view (i := 9) rfl (XT.is (t_not (bb := true) (t_val ?p9)) rfl))))) (fun z => nomatch z) (fun _ => s_nil ?k18))
  case p9 => exact e_call C f_shows g__law_shows (a_cons (d := penS B w) (e_var n__law_pen rfl) (a_cons (d := .lst (B.map pairD)) (e_var n__law_others rfl) (a_cons (d := .int w) (e_var n__law_low rfl) a_nil))) swB
  dsimp only [List.set_cons_succ, List.set_cons_zero]
  obtain ⟨c1, cr, ec⟩ := cons_of (L := (rot B (B.length / 2)).map (nP w)) (fun z => by have := congrArg List.length z; rw [List.length_map, List.length_nil] at this; omega)
  rw [ec]
  refine' s_cons (s_pop0 C.toKb n__law_changed rfl e_int ?k19)
  dsimp only [List.set_cons_succ, List.set_cons_zero]
  clear ec
  refine' s_cons (s_if (b := false) (t_view (i := 9) rfl (XT.is (t_w (w_or (b1 := false) (t_not (bb := true) (t_val ?p10)) fun _ => w_or1 (bb := false) (t_not (bb := true) (t_val ?p11)))) rfl)) (fun z => nomatch z) (fun _ => s_nil ?k20))
  case p10 => exact e_call C f_same g__law_same (a_cons (d := .bl al) (XE.is (e_cmp (e_var (d := penS B w) n__law_pen rfl) (e_var (d := penS A v) n__law_twin rfl) (c_own (op := .Eq) C F1 rfl e1 e2 e3 peq2_r (by decide))) (congrArg D.bl sC)) (a_cons (d := .bl al) (e_var n__law_alike rfl) a_nil)) (same_r rfl rfl (Nat.zero_le _))
  case p11 => exact e_call C f_same g__law_same (a_cons (d := .bl true) (XE.is (e_cmp (e_var (d := penS B w) n__law_pen rfl) (e_var (d := penS B w) n__law_second rfl) (c_own (op := .Eq) C F1 rfl e1 e2 e3 peq2_r (by decide))) (congrArg D.bl sB)) (a_cons (d := .bl true) e_bl a_nil)) (same_r rfl rfl (Nat.zero_le _))
  refine' s_cons (s_ret (d := .bl true) (e_view (i := 9) neP rfl (e_and (b1 := true) ?p12 fun _ => e_and (b1 := true) ?p13 fun _ => e_one ?p14) True.intro) rfl)
  case p12 => exact e_call C f_shows g__law_shows (a_cons (d := penS B w) (e_var n__law_pen rfl) (a_cons (d := .lst (B.map pairD)) (e_var n__law_others rfl) (a_cons (d := .int w) (e_var n__law_low rfl) a_nil))) swB
  case p13 => exact e_call C f_shows g__law_shows (a_cons (d := penS A v) (e_var n__law_twin rfl) (a_cons (d := .lst (A.map pairD)) (e_var n__law_spots rfl) (a_cons (d := .int v) (e_var n__law_over rfl) a_nil))) swA
  case p14 => exact e_call C f_shows g__law_shows (a_cons (d := penS B w) (e_var n__law_second rfl) (a_cons (d := .lst (B.map pairD)) (e_var n__law_others rfl) (a_cons (d := .int w) (e_var n__law_low rfl) a_nil))) swB
end

abbrev s_BadOver_init : Stmt := inClass (topS 3) 0
theorem s_BadOver_init_sc : FnScope ["self", "over"] ["self", "over"] (defScope s_BadOver_init) := ⟨rfl, rfl, rfl, by decide +kernel, rfl, by decide +kernel, by decide +kernel⟩
abbrev s_BadSlope_init : Stmt := inClass (topS 4) 0
theorem s_BadSlope_init_sc : FnScope ["self", "a", "b"] ["self", "a", "b"] (defScope s_BadSlope_init) := ⟨rfl, rfl, rfl, by decide +kernel, rfl, by decide +kernel, by decide +kernel⟩
abbrev s_BadCount_init : Stmt := inClass (topS 5) 0
theorem s_BadCount_init_sc : FnScope ["self", "count"] ["self", "count"] (defScope s_BadCount_init) := ⟨rfl, rfl, rfl, by decide +kernel, rfl, by decide +kernel, by decide +kernel⟩
abbrev s_Bent_init : Stmt := inClass (topS 6) 0
theorem s_Bent_init_sc : FnScope ["self", "at"] ["self", "at"] (defScope s_Bent_init) := ⟨rfl, rfl, rfl, by decide +kernel, rfl, by decide +kernel, by decide +kernel⟩
abbrev s_BadText_init : Stmt := inClass (topS 7) 0
theorem s_BadText_init_sc : FnScope ["self", "at"] ["self", "at"] (defScope s_BadText_init) := ⟨rfl, rfl, rfl, by decide +kernel, rfl, by decide +kernel, by decide +kernel⟩
theorem all_mk {l : PySem.W.OpenLaw} {w : World} {K : PySem.W.Frag} {h : Heap} {mg : Str → Option Value} {fa : Addr} (X : K.In h) (G : h.Ns mainGlobals mg) (hfa : mg "law" = some (.ref fa))
    {C pX pY pO : Addr} {iX iY iO : Nat} {e_BadOver N_BadOver : Addr} {nm_BadOver q_BadOver : Str} {bs_BadOver : List Value} {sn_BadOver : List Str} {sub_BadOver : List Value} {ab_BadOver : Bool} {col_BadOver : Option Bool}
    {dd_BadOver : Option Addr} {m0_BadOver m1_BadOver m2_BadOver m3_BadOver m4_BadOver : Option Value} {bm_BadOver : List Value} {A_iBadOver : Addr} {od_iBadOver an_iBadOver : Option Addr} {sl_iBadOver : Array (Option Value)}
    {oc_iBadOver kV_iBadOver dc_iBadOver pm_iBadOver cd_iBadOver ct_iBadOver : Value} {A_gcd : Addr} {od_gcd an_gcd : Option Addr} {sl_gcd : Array (Option Value)} {oc_gcd kV_gcd dc_gcd pm_gcd cd_gcd ct_gcd : Value}
    {A_red : Addr} {od_red an_red : Option Addr} {sl_red : Array (Option Value)} {oc_red kV_red dc_red pm_red cd_red ct_red : Value} {A_pinit : Addr} {od_pinit an_pinit : Option Addr} {sl_pinit : Array (Option Value)}
    {oc_pinit kV_pinit dc_pinit pm_pinit cd_pinit ct_pinit : Value} {T_pinit : Addr} {td_pinit : Option Addr} {tl_pinit : Array (Option Value)} {tc_pinit : Value} {tn_pinit : Nat} {tk0_pinit : Tok} {A_peq : Addr}
    {od_peq an_peq : Option Addr} {sl_peq : Array (Option Value)} {oc_peq kV_peq dc_peq pm_peq cd_peq ct_peq : Value} {e_BadCount N_BadCount : Addr} {nm_BadCount q_BadCount : Str} {bs_BadCount : List Value}
    {sn_BadCount : List Str} {sub_BadCount : List Value} {ab_BadCount : Bool} {col_BadCount : Option Bool} {dd_BadCount : Option Addr} {m0_BadCount m1_BadCount m2_BadCount m3_BadCount m4_BadCount : Option Value}
    {bm_BadCount : List Value} {A_iBadCount : Addr} {od_iBadCount an_iBadCount : Option Addr} {sl_iBadCount : Array (Option Value)} {oc_iBadCount kV_iBadCount dc_iBadCount pm_iBadCount cd_iBadCount ct_iBadCount : Value}
    {e_Bent N_Bent : Addr} {nm_Bent q_Bent : Str} {bs_Bent : List Value} {sn_Bent : List Str} {sub_Bent : List Value} {ab_Bent : Bool} {col_Bent : Option Bool} {dd_Bent : Option Addr} {m0_Bent m1_Bent m2_Bent m3_Bent m4_Bent : Option Value}
    {bm_Bent : List Value} {A_iBent : Addr} {od_iBent an_iBent : Option Addr} {sl_iBent : Array (Option Value)} {oc_iBent kV_iBent dc_iBent pm_iBent cd_iBent ct_iBent : Value} {A_cmult : Addr} {od_cmult an_cmult : Option Addr}
    {sl_cmult : Array (Option Value)} {oc_cmult kV_cmult dc_cmult pm_cmult cd_cmult ct_cmult : Value} {A_commonover : Addr} {od_commonover an_commonover : Option Addr} {sl_commonover : Array (Option Value)}
    {oc_commonover kV_commonover dc_commonover pm_commonover cd_commonover ct_commonover : Value} {A_placesof : Addr} {od_placesof an_placesof : Option Addr} {sl_placesof : Array (Option Value)} {oc_placesof kV_placesof dc_placesof pm_placesof cd_placesof ct_placesof : Value}
    {A_turn : Addr} {od_turn an_turn : Option Addr} {sl_turn : Array (Option Value)} {oc_turn kV_turn dc_turn pm_turn cd_turn ct_turn : Value} {A_isbent : Addr} {od_isbent an_isbent : Option Addr} {sl_isbent : Array (Option Value)}
    {oc_isbent kV_isbent dc_isbent pm_isbent cd_isbent ct_isbent : Value} {O_Pen : Addr} {tk_most : Tok} {A_ordered : Addr} {od_ordered an_ordered : Option Addr} {sl_ordered : Array (Option Value)} {oc_ordered kV_ordered dc_ordered pm_ordered cd_ordered ct_ordered : Value}
    {A_peninit : Addr} {od_peninit an_peninit : Option Addr} {sl_peninit : Array (Option Value)} {oc_peninit kV_peninit dc_peninit pm_peninit cd_peninit ct_peninit : Value} {p_penget : Addr} {rs_penget : List Value}
    {A_penget : Addr} {od_penget an_penget : Option Addr} {sl_penget : Array (Option Value)} {oc_penget kV_penget dc_penget pm_penget cd_penget ct_penget : Value} {v_set : Value} {rs_set : List Value} {A_penset : Addr}
    {od_penset an_penset : Option Addr} {sl_penset : Array (Option Value)} {oc_penset kV_penset dc_penset pm_penset cd_penset ct_penset : Value} {A_penchange : Addr} {od_penchange an_penchange : Option Addr}
    {sl_penchange : Array (Option Value)} {oc_penchange kV_penchange dc_penchange pm_penchange cd_penchange ct_penchange : Value} {A_peneq : Addr} {od_peneq an_peneq : Option Addr} {sl_peneq : Array (Option Value)}
    {oc_peneq kV_peneq dc_peneq pm_peneq cd_peneq ct_peneq : Value} {A_iterPen : Addr} {od_iterPen an_iterPen : Option Addr} {sl_iterPen : Array (Option Value)} {oc_iterPen kV_iterPen dc_iterPen pm_iterPen cd_iterPen ct_iterPen : Value}
    {A_nth : Addr} {od_nth an_nth : Option Addr} {sl_nth : Array (Option Value)} {oc_nth kV_nth dc_nth pm_nth cd_nth ct_nth : Value} {A_draws : Addr} {od_draws an_draws : Option Addr} {sl_draws : Array (Option Value)}
    {oc_draws kV_draws dc_draws pm_draws cd_draws ct_draws : Value} {A_same : Addr} {od_same an_same : Option Addr} {sl_same : Array (Option Value)} {oc_same kV_same dc_same pm_same cd_same ct_same : Value}
    {A_lgcd : Addr} {od_lgcd an_lgcd : Option Addr} {sl_lgcd : Array (Option Value)} {oc_lgcd kV_lgcd dc_lgcd pm_lgcd cd_lgcd ct_lgcd : Value} {A_over : Addr} {od_over an_over : Option Addr} {sl_over : Array (Option Value)}
    {oc_over kV_over dc_over pm_over cd_over ct_over : Value} {A_interms : Addr} {od_interms an_interms : Option Addr} {sl_interms : Array (Option Value)} {oc_interms kV_interms dc_interms pm_interms cd_interms ct_interms : Value}
    {A_ispoint : Addr} {od_ispoint an_ispoint : Option Addr} {sl_ispoint : Array (Option Value)} {oc_ispoint kV_ispoint dc_ispoint pm_ispoint cd_ispoint ct_ispoint : Value} {A_lturn : Addr} {od_lturn an_lturn : Option Addr}
    {sl_lturn : Array (Option Value)} {oc_lturn kV_lturn dc_lturn pm_lturn cd_lturn ct_lturn : Value} {A_halfhull : Addr} {od_halfhull an_halfhull : Option Addr} {sl_halfhull : Array (Option Value)} {oc_halfhull kV_halfhull dc_halfhull pm_halfhull cd_halfhull ct_halfhull : Value}
    {A_hullof : Addr} {od_hullof an_hullof : Option Addr} {sl_hullof : Array (Option Value)} {oc_hullof kV_hullof dc_hullof pm_hullof cd_hullof ct_hullof : Value} {A_drawspots : Addr} {od_drawspots an_drawspots : Option Addr}
    {sl_drawspots : Array (Option Value)} {oc_drawspots kV_drawspots dc_drawspots pm_drawspots cd_drawspots ct_drawspots : Value} {A_drawshape : Addr} {od_drawshape an_drawshape : Option Addr} {sl_drawshape : Array (Option Value)}
    {oc_drawshape kV_drawshape dc_drawshape pm_drawshape cd_drawshape ct_drawshape : Value} {A_made : Addr} {od_made an_made : Option Addr} {sl_made : Array (Option Value)} {oc_made kV_made dc_made pm_made cd_made ct_made : Value}
    {A_arepoints : Addr} {od_arepoints an_arepoints : Option Addr} {sl_arepoints : Array (Option Value)} {oc_arepoints kV_arepoints dc_arepoints pm_arepoints cd_arepoints ct_arepoints : Value} {A_shows : Addr}
    {od_shows an_shows : Option Addr} {sl_shows : Array (Option Value)} {oc_shows kV_shows dc_shows pm_shows cd_shows ct_shows : Value} {A_law : Addr} {od_law an_law : Option Addr} {sl_law : Array (Option Value)}
    {oc_law kV_law dc_law pm_law cd_law ct_law : Value}
    (z_abs : PySem.W.nsIn K mainGlobals "abs" = some none)
    (z_int : PySem.W.nsIn K mainGlobals "int" = some none)
    (z_len : PySem.W.nsIn K mainGlobals "len" = some none)
    (z_range : PySem.W.nsIn K mainGlobals "range" = some none)
    (z_isinstance : PySem.W.nsIn K mainGlobals "isinstance" = some none)
    (z_bool : PySem.W.nsIn K mainGlobals "bool" = some none)
    (z_str : PySem.W.nsIn K mainGlobals "str" = some none)
    (z_tuple : PySem.W.nsIn K mainGlobals "tuple" = some none)
    (z_list : PySem.W.nsIn K mainGlobals "list" = some none)
    (z_max : PySem.W.nsIn K mainGlobals "max" = some none)
    (z_min : PySem.W.nsIn K mainGlobals "min" = some none)
    (z_enumerate : PySem.W.nsIn K mainGlobals "enumerate" = some none)
    (z_sorted : PySem.W.nsIn K mainGlobals "sorted" = some none)
    (z_set : PySem.W.nsIn K mainGlobals "set" = some none)
    (z_sum : PySem.W.nsIn K mainGlobals "sum" = some none)
    (z_all : PySem.W.nsIn K mainGlobals "all" = some none)
    (z_any : PySem.W.nsIn K mainGlobals "any" = some none)
    (z_zip : PySem.W.nsIn K mainGlobals "zip" = some none)
    (z_iter : PySem.W.nsIn K mainGlobals "iter" = some none)
    (z_next : PySem.W.nsIn K mainGlobals "next" = some none)
    (z_divmod : PySem.W.nsIn K mainGlobals "divmod" = some none)
    (z_valueerror : PySem.W.nsIn K mainGlobals "ValueError" = some none)
    (cn : PySem.W.specialIn K (.builtin "object.__class__") "__get__" = some (some (.builtin "getset_descriptor.__get__")))
    (ctk : PySem.W.takesIn K (.builtin "object.__class__") = some true)
    (a_Point : PySem.W.nsIn K mainGlobals "Point" = some (some (.ref C)))
    (pg : PySem.W.plainGet K C Str.empty = true)
    (ic : PySem.W.isClsIn K C = true)
    (po : PySem.W.plainOver K C = true)
    (tyP : PySem.W.typeIn K (.ref C) = some (.type "type"))
    (saP : PySem.W.findIn K (.ref C) "__setattr__" = some (some (.builtin "object.__setattr__")))
    (caP : PySem.W.findIn K (.ref C) "__class__" = some (some (.builtin "object.__class__")))
    (moP : PySem.W.mroIn K C (.type "object") = some true)
    (sAX : PySem.W.findIn K (.ref C) "x" = some (some (.ref pX)))
    (sGX : PySem.W.specialIn K (.ref pX) "__get__" = some (some (.builtin "member_descriptor.__get__")))
    (sTX : PySem.W.takesIn K (.ref pX) = some true)
    (sYX : PySem.W.typeIn K (.ref pX) = some (.type "member_descriptor"))
    (sIX : PySem.W.slotIn K pX C = some iX)
    (sLX : iX < 1000)
    (sAY : PySem.W.findIn K (.ref C) "y" = some (some (.ref pY)))
    (sGY : PySem.W.specialIn K (.ref pY) "__get__" = some (some (.builtin "member_descriptor.__get__")))
    (sTY : PySem.W.takesIn K (.ref pY) = some true)
    (sYY : PySem.W.typeIn K (.ref pY) = some (.type "member_descriptor"))
    (sIY : PySem.W.slotIn K pY C = some iY)
    (sLY : iY < 1000)
    (sAO : PySem.W.findIn K (.ref C) "over" = some (some (.ref pO)))
    (sGO : PySem.W.specialIn K (.ref pO) "__get__" = some (some (.builtin "member_descriptor.__get__")))
    (sTO : PySem.W.takesIn K (.ref pO) = some true)
    (sYO : PySem.W.typeIn K (.ref pO) = some (.type "member_descriptor"))
    (sIO : PySem.W.slotIn K pO C = some iO)
    (sLO : iO < 1000)
    (nXY : iX ≠ iY)
    (nXO : iX ≠ iO)
    (nYO : iY ≠ iO)
    (a_BadOver : PySem.W.nsIn K mainGlobals "BadOver" = some (some (.ref e_BadOver)))
    (x_BadOver : K.lookup e_BadOver = some (excClassObj nm_BadOver q_BadOver e_BadOver N_BadOver bs_BadOver bm_BadOver true sn_BadOver sub_BadOver ab_BadOver col_BadOver dd_BadOver m0_BadOver m1_BadOver m2_BadOver m3_BadOver m4_BadOver "ValueError.__new__"))
    (r_BadOver : PySem.HandSPX.refsVE bm_BadOver = true)
    (sa_BadOver : PySem.W.findIn K (.ref e_BadOver) "__setattr__" = some (some (.builtin "object.__setattr__")))
    (ga_BadOver : PySem.W.findIn K (.ref e_BadOver) "__getattribute__" = some (some (.builtin "BaseException.__getattribute__")))
    (gg_BadOver : PySem.W.findIn K (.ref e_BadOver) "__getattr__" = some none)
    (ca_BadOver : PySem.W.findIn K (.ref e_BadOver) "__class__" = some (some (.builtin "object.__class__")))
    (sx_BadOver : PySem.W.subIn K (.ref e_BadOver) (.type "BaseException") = some true)
    (ty_BadOver : PySem.W.typeIn K (.ref e_BadOver) = some (.type "type"))
    (kc_BadOver : PySem.W.keepIn K (.ref e_BadOver) = true)
    (hd_BadOver : PySem.W.hasDictIn K e_BadOver = true)
    (ic_BadOver : PySem.W.isClsIn K e_BadOver = true)
    (ss_BadOver : PySem.W.subIn K (.ref e_BadOver) (.ref e_BadOver) = some true)
    (mo_BadOver : PySem.W.mroIn K e_BadOver (.type "object") = some true)
    (nf_BadOver_over : PySem.W.findIn K (.ref e_BadOver) "over" = some none)
    (a_iBadOver : PySem.W.findIn K (.ref e_BadOver) "__init__" = some (some (.ref A_iBadOver)))
    (tf_iBadOver : PySem.W.typeIn K (.ref A_iBadOver) = some (.type "function"))
    (l_iBadOver : K.lookup A_iBadOver = some ⟨oc_iBadOver, od_iBadOver, .func (PySem.W.fnOf "__init__" "BadOver.__init__" (defArgs s_BadOver_init) (defBody s_BadOver_init) (defScope s_BadOver_init) .none kV_iBadOver dc_iBadOver pm_iBadOver an_iBadOver cd_iBadOver ct_iBadOver), sl_iBadOver⟩)
    (c_iBadOver : PySem.W.codeIn K cd_iBadOver "BadOver.__init__" = true)
    (k_iBadOver : PySem.W.keepIn K (.ref A_iBadOver) = true)
    (a_gcd : PySem.W.nsIn K mainGlobals "common_divisor" = some (some (.ref A_gcd)))
    (l_gcd : K.lookup A_gcd = some ⟨oc_gcd, od_gcd, .func (PySem.W.fnOf "common_divisor" "common_divisor" (defArgs s_common_divisor) (defBody s_common_divisor) (defScope s_common_divisor) .none kV_gcd dc_gcd pm_gcd an_gcd cd_gcd ct_gcd), sl_gcd⟩)
    (c_gcd : PySem.W.codeIn K cd_gcd "common_divisor" = true)
    (k_gcd : PySem.W.keepIn K (.ref A_gcd) = true)
    (a_red : PySem.W.nsIn K mainGlobals "reduced" = some (some (.ref A_red)))
    (l_red : K.lookup A_red = some ⟨oc_red, od_red, .func (PySem.W.fnOf "reduced" "reduced" (defArgs s_reduced) (defBody s_reduced) (defScope s_reduced) .none kV_red dc_red pm_red an_red cd_red ct_red), sl_red⟩)
    (c_red : PySem.W.codeIn K cd_red "reduced" = true)
    (k_red : PySem.W.keepIn K (.ref A_red) = true)
    (a_pinit : PySem.W.findIn K (.ref C) "__init__" = some (some (.ref A_pinit)))
    (i_pinit : PySem.W.isFn K (.ref A_pinit) = true)
    (mkP : PySem.W.makesIn K C = true)
    (kcP : PySem.W.keepIn K (.ref C) = true)
    (l_pinit : K.lookup A_pinit = some ⟨oc_pinit, od_pinit, .func (PySem.W.fnOf "__init__" "Point.__init__" (defArgs s_Point_init) (defBody s_Point_init) (defScope s_Point_init) (.ref T_pinit) kV_pinit dc_pinit pm_pinit an_pinit cd_pinit ct_pinit), sl_pinit⟩)
    (c_pinit : PySem.W.codeIn K cd_pinit "Point.__init__" = true)
    (k_pinit : PySem.W.keepIn K (.ref A_pinit) = true)
    (t_pinit : K.lookup T_pinit = some ⟨tc_pinit, td_pinit, .seq ([Value.int 1 tk0_pinit] : List Value).toArray tn_pinit, tl_pinit⟩)
    (nfP : PySem.W.notFirst K C (.ref C) = true)
    (tt : PySem.W.subIn K (.type "tuple") (.ref C) = some false)
    (a_peq : PySem.W.findIn K (.ref C) "__eq__" = some (some (.ref A_peq)))
    (i_peq : PySem.W.isFn K (.ref A_peq) = true)
    (l_peq : K.lookup A_peq = some ⟨oc_peq, od_peq, .func (PySem.W.fnOf "__eq__" "Point.__eq__" (defArgs s_Point_eq) (defBody s_Point_eq) (defScope s_Point_eq) .none kV_peq dc_peq pm_peq an_peq cd_peq ct_peq), sl_peq⟩)
    (c_peq : PySem.W.codeIn K cd_peq "Point.__eq__" = true)
    (k_peq : PySem.W.keepIn K (.ref A_peq) = true)
    (a_BadCount : PySem.W.nsIn K mainGlobals "BadCount" = some (some (.ref e_BadCount)))
    (x_BadCount : K.lookup e_BadCount = some (excClassObj nm_BadCount q_BadCount e_BadCount N_BadCount bs_BadCount bm_BadCount true sn_BadCount sub_BadCount ab_BadCount col_BadCount dd_BadCount m0_BadCount m1_BadCount m2_BadCount m3_BadCount m4_BadCount "ValueError.__new__"))
    (r_BadCount : PySem.HandSPX.refsVE bm_BadCount = true)
    (sa_BadCount : PySem.W.findIn K (.ref e_BadCount) "__setattr__" = some (some (.builtin "object.__setattr__")))
    (ga_BadCount : PySem.W.findIn K (.ref e_BadCount) "__getattribute__" = some (some (.builtin "BaseException.__getattribute__")))
    (gg_BadCount : PySem.W.findIn K (.ref e_BadCount) "__getattr__" = some none)
    (ca_BadCount : PySem.W.findIn K (.ref e_BadCount) "__class__" = some (some (.builtin "object.__class__")))
    (sx_BadCount : PySem.W.subIn K (.ref e_BadCount) (.type "BaseException") = some true)
    (ty_BadCount : PySem.W.typeIn K (.ref e_BadCount) = some (.type "type"))
    (kc_BadCount : PySem.W.keepIn K (.ref e_BadCount) = true)
    (hd_BadCount : PySem.W.hasDictIn K e_BadCount = true)
    (ic_BadCount : PySem.W.isClsIn K e_BadCount = true)
    (ss_BadCount : PySem.W.subIn K (.ref e_BadCount) (.ref e_BadCount) = some true)
    (mo_BadCount : PySem.W.mroIn K e_BadCount (.type "object") = some true)
    (nf_BadCount_count : PySem.W.findIn K (.ref e_BadCount) "count" = some none)
    (a_iBadCount : PySem.W.findIn K (.ref e_BadCount) "__init__" = some (some (.ref A_iBadCount)))
    (tf_iBadCount : PySem.W.typeIn K (.ref A_iBadCount) = some (.type "function"))
    (l_iBadCount : K.lookup A_iBadCount = some ⟨oc_iBadCount, od_iBadCount, .func (PySem.W.fnOf "__init__" "BadCount.__init__" (defArgs s_BadCount_init) (defBody s_BadCount_init) (defScope s_BadCount_init) .none kV_iBadCount dc_iBadCount pm_iBadCount an_iBadCount cd_iBadCount ct_iBadCount), sl_iBadCount⟩)
    (c_iBadCount : PySem.W.codeIn K cd_iBadCount "BadCount.__init__" = true)
    (k_iBadCount : PySem.W.keepIn K (.ref A_iBadCount) = true)
    (a_Bent : PySem.W.nsIn K mainGlobals "Bent" = some (some (.ref e_Bent)))
    (x_Bent : K.lookup e_Bent = some (excClassObj nm_Bent q_Bent e_Bent N_Bent bs_Bent bm_Bent true sn_Bent sub_Bent ab_Bent col_Bent dd_Bent m0_Bent m1_Bent m2_Bent m3_Bent m4_Bent "ValueError.__new__"))
    (r_Bent : PySem.HandSPX.refsVE bm_Bent = true)
    (sa_Bent : PySem.W.findIn K (.ref e_Bent) "__setattr__" = some (some (.builtin "object.__setattr__")))
    (ga_Bent : PySem.W.findIn K (.ref e_Bent) "__getattribute__" = some (some (.builtin "BaseException.__getattribute__")))
    (gg_Bent : PySem.W.findIn K (.ref e_Bent) "__getattr__" = some none)
    (ca_Bent : PySem.W.findIn K (.ref e_Bent) "__class__" = some (some (.builtin "object.__class__")))
    (sx_Bent : PySem.W.subIn K (.ref e_Bent) (.type "BaseException") = some true)
    (ty_Bent : PySem.W.typeIn K (.ref e_Bent) = some (.type "type"))
    (kc_Bent : PySem.W.keepIn K (.ref e_Bent) = true)
    (hd_Bent : PySem.W.hasDictIn K e_Bent = true)
    (ic_Bent : PySem.W.isClsIn K e_Bent = true)
    (ss_Bent : PySem.W.subIn K (.ref e_Bent) (.ref e_Bent) = some true)
    (mo_Bent : PySem.W.mroIn K e_Bent (.type "object") = some true)
    (nf_Bent_at : PySem.W.findIn K (.ref e_Bent) "at" = some none)
    (a_iBent : PySem.W.findIn K (.ref e_Bent) "__init__" = some (some (.ref A_iBent)))
    (tf_iBent : PySem.W.typeIn K (.ref A_iBent) = some (.type "function"))
    (l_iBent : K.lookup A_iBent = some ⟨oc_iBent, od_iBent, .func (PySem.W.fnOf "__init__" "Bent.__init__" (defArgs s_Bent_init) (defBody s_Bent_init) (defScope s_Bent_init) .none kV_iBent dc_iBent pm_iBent an_iBent cd_iBent ct_iBent), sl_iBent⟩)
    (c_iBent : PySem.W.codeIn K cd_iBent "Bent.__init__" = true)
    (k_iBent : PySem.W.keepIn K (.ref A_iBent) = true)
    (a_cmult : PySem.W.nsIn K mainGlobals "common_multiple" = some (some (.ref A_cmult)))
    (l_cmult : K.lookup A_cmult = some ⟨oc_cmult, od_cmult, .func (PySem.W.fnOf "common_multiple" "common_multiple" (defArgs s_common_multiple) (defBody s_common_multiple) (defScope s_common_multiple) .none kV_cmult dc_cmult pm_cmult an_cmult cd_cmult ct_cmult), sl_cmult⟩)
    (c_cmult : PySem.W.codeIn K cd_cmult "common_multiple" = true)
    (k_cmult : PySem.W.keepIn K (.ref A_cmult) = true)
    (a_commonover : PySem.W.nsIn K mainGlobals "common_over" = some (some (.ref A_commonover)))
    (l_commonover : K.lookup A_commonover = some ⟨oc_commonover, od_commonover, .func (PySem.W.fnOf "common_over" "common_over" (defArgs s_common_over) (defBody s_common_over) (defScope s_common_over) .none kV_commonover dc_commonover pm_commonover an_commonover cd_commonover ct_commonover), sl_commonover⟩)
    (c_commonover : PySem.W.codeIn K cd_commonover "common_over" = true)
    (k_commonover : PySem.W.keepIn K (.ref A_commonover) = true)
    (a_placesof : PySem.W.nsIn K mainGlobals "places_of" = some (some (.ref A_placesof)))
    (l_placesof : K.lookup A_placesof = some ⟨oc_placesof, od_placesof, .func (PySem.W.fnOf "places_of" "places_of" (defArgs s_places_of) (defBody s_places_of) (defScope s_places_of) .none kV_placesof dc_placesof pm_placesof an_placesof cd_placesof ct_placesof), sl_placesof⟩)
    (c_placesof : PySem.W.codeIn K cd_placesof "places_of" = true)
    (k_placesof : PySem.W.keepIn K (.ref A_placesof) = true)
    (a_turn : PySem.W.nsIn K mainGlobals "turn" = some (some (.ref A_turn)))
    (l_turn : K.lookup A_turn = some ⟨oc_turn, od_turn, .func (PySem.W.fnOf "turn" "turn" (defArgs s_turn) (defBody s_turn) (defScope s_turn) .none kV_turn dc_turn pm_turn an_turn cd_turn ct_turn), sl_turn⟩)
    (c_turn : PySem.W.codeIn K cd_turn "turn" = true)
    (k_turn : PySem.W.keepIn K (.ref A_turn) = true)
    (a_isbent : PySem.W.nsIn K mainGlobals "is_bent" = some (some (.ref A_isbent)))
    (l_isbent : K.lookup A_isbent = some ⟨oc_isbent, od_isbent, .func (PySem.W.fnOf "is_bent" "is_bent" (defArgs s_is_bent) (defBody s_is_bent) (defScope s_is_bent) .none kV_isbent dc_isbent pm_isbent an_isbent cd_isbent ct_isbent), sl_isbent⟩)
    (c_isbent : PySem.W.codeIn K cd_isbent "is_bent" = true)
    (k_isbent : PySem.W.keepIn K (.ref A_isbent) = true)
    (a_Pen : PySem.W.nsIn K mainGlobals "Pen" = some (some (.ref O_Pen)))
    (pg_Pen : PySem.W.plainGet K O_Pen Str.empty = true)
    (hd_Pen : PySem.W.hasDictIn K O_Pen = true)
    (po_Pen : PySem.W.plainOver K O_Pen = true)
    (sa_Pen : PySem.W.findIn K (.ref O_Pen) "__setattr__" = some (some (.builtin "object.__setattr__")))
    (ca_Pen : PySem.W.findIn K (.ref O_Pen) "__class__" = some (some (.builtin "object.__class__")))
    (mo_Pen : PySem.W.mroIn K O_Pen (.type "object") = some true)
    (nf_Pen__corners : PySem.W.findIn K (.ref O_Pen) "_corners" = some none)
    (ns_any : PySem.W.nsIn K cStatics "thirdparty.any" = some none)
    (ga_type : PySem.W.findIn K (.type "type") "__getattribute__" = some (some (.builtin "type.__getattribute__")))
    (st_type : PySem.W.subIn K (.type "type") (.type "type") = some true)
    (ty_Pen : PySem.W.typeIn K (.ref O_Pen) = some (.type "type"))
    (ga_Pen : PySem.W.specialIn K (.ref O_Pen) "__getattribute__" = some (some (.builtin "type.__getattribute__")))
    (ct_type : PySem.W.findIn K (.type "type") "MOST" = some none)
    (cf_Pen : PySem.W.findIn K (.ref O_Pen) "MOST" = some (some (.int 64 tk_most)))
    (a_ordered : PySem.W.nsIn K mainGlobals "ordered" = some (some (.ref A_ordered)))
    (l_ordered : K.lookup A_ordered = some ⟨oc_ordered, od_ordered, .func (PySem.W.fnOf "ordered" "ordered" (defArgs s_ordered) (defBody s_ordered) (defScope s_ordered) .none kV_ordered dc_ordered pm_ordered an_ordered cd_ordered ct_ordered), sl_ordered⟩)
    (c_ordered : PySem.W.codeIn K cd_ordered "ordered" = true)
    (k_ordered : PySem.W.keepIn K (.ref A_ordered) = true)
    (a_peninit : PySem.W.findIn K (.ref O_Pen) "__init__" = some (some (.ref A_peninit)))
    (i_peninit : PySem.W.isFn K (.ref A_peninit) = true)
    (mk_peninit : PySem.W.makesIn K O_Pen = true)
    (kc_peninit : PySem.W.keepIn K (.ref O_Pen) = true)
    (l_peninit : K.lookup A_peninit = some ⟨oc_peninit, od_peninit, .func (PySem.W.fnOf "__init__" "Pen.__init__" (defArgs s_Pen_init) (defBody s_Pen_init) (defScope s_Pen_init) .none kV_peninit dc_peninit pm_peninit an_peninit cd_peninit ct_peninit), sl_peninit⟩)
    (c_peninit : PySem.W.codeIn K cd_peninit "Pen.__init__" = true)
    (k_peninit : PySem.W.keepIn K (.ref A_peninit) = true)
    (a_penget : PySem.W.findIn K (.ref O_Pen) "corners" = some (some (.ref p_penget)))
    (pg_penget : PySem.W.specialIn K (.ref p_penget) "__get__" = some (some (.builtin "property.__get__")))
    (pt_penget : PySem.W.takesIn K (.ref p_penget) = some true)
    (pr_penget : PySem.W.recIn K p_penget "property" = some (.ref A_penget :: rs_penget))
    (l_penget : K.lookup A_penget = some ⟨oc_penget, od_penget, .func (PySem.W.fnOf "corners" "Pen.corners" (defArgs s_Pen_corners_get) (defBody s_Pen_corners_get) (defScope s_Pen_corners_get) .none kV_penget dc_penget pm_penget an_penget cd_penget ct_penget), sl_penget⟩)
    (c_penget : PySem.W.codeIn K cd_penget "Pen.corners" = true)
    (k_penget : PySem.W.keepIn K (.ref A_penget) = true)
    (tk_set : PySem.W.takerIn K O_Pen "corners" = some (some (.ref p_penget)))
    (ty_set : PySem.W.typeIn K (.ref p_penget) = some (.type "property"))
    (rc_set : PySem.W.recIn K p_penget "property" = some (v_set :: .ref A_penset :: rs_set))
    (l_penset : K.lookup A_penset = some ⟨oc_penset, od_penset, .func (PySem.W.fnOf "corners" "Pen.corners" (defArgs s_Pen_corners) (defBody s_Pen_corners) (defScope s_Pen_corners) .none kV_penset dc_penset pm_penset an_penset cd_penset ct_penset), sl_penset⟩)
    (c_penset : PySem.W.codeIn K cd_penset "Pen.corners" = true)
    (k_penset : PySem.W.keepIn K (.ref A_penset) = true)
    (a_penchange : PySem.W.findIn K (.ref O_Pen) "change" = some (some (.ref A_penchange)))
    (i_penchange : PySem.W.isFn K (.ref A_penchange) = true)
    (l_penchange : K.lookup A_penchange = some ⟨oc_penchange, od_penchange, .func (PySem.W.fnOf "change" "Pen.change" (defArgs s_Pen_change) (defBody s_Pen_change) (defScope s_Pen_change) .none kV_penchange dc_penchange pm_penchange an_penchange cd_penchange ct_penchange), sl_penchange⟩)
    (c_penchange : PySem.W.codeIn K cd_penchange "Pen.change" = true)
    (k_penchange : PySem.W.keepIn K (.ref A_penchange) = true)
    (nePp : O_Pen ≠ C)
    (nfN : PySem.W.notFirst K O_Pen (.ref O_Pen) = true)
    (nfL : PySem.W.notFirst K O_Pen (.type "list") = true)
    (icN : PySem.W.isClsIn K O_Pen = true)
    (tlN : PySem.W.subIn K (.type "list") (.ref O_Pen) = some false)
    (a_peneq : PySem.W.findIn K (.ref O_Pen) "__eq__" = some (some (.ref A_peneq)))
    (i_peneq : PySem.W.isFn K (.ref A_peneq) = true)
    (l_peneq : K.lookup A_peneq = some ⟨oc_peneq, od_peneq, .func (PySem.W.fnOf "__eq__" "Pen.__eq__" (defArgs s_Pen_eq) (defBody s_Pen_eq) (defScope s_Pen_eq) .none kV_peneq dc_peneq pm_peneq an_peneq cd_peneq ct_peneq), sl_peneq⟩)
    (c_peneq : PySem.W.codeIn K cd_peneq "Pen.__eq__" = true)
    (k_peneq : PySem.W.keepIn K (.ref A_peneq) = true)
    (a_iterPen : PySem.W.findIn K (.ref O_Pen) "__iter__" = some (some (.ref A_iterPen)))
    (i_iterPen : PySem.W.isFn K (.ref A_iterPen) = true)
    (l_iterPen : K.lookup A_iterPen = some ⟨oc_iterPen, od_iterPen, .func (PySem.W.fnOf "__iter__" "Pen.__iter__" (defArgs s_Pen_iter) (defBody s_Pen_iter) (defScope s_Pen_iter) .none kV_iterPen dc_iterPen pm_iterPen an_iterPen cd_iterPen ct_iterPen), sl_iterPen⟩)
    (c_iterPen : PySem.W.codeIn K cd_iterPen "Pen.__iter__" = true)
    (k_iterPen : PySem.W.keepIn K (.ref A_iterPen) = true)
    (a_nth : PySem.W.nsIn K mainGlobals "_law_nth" = some (some (.ref A_nth)))
    (l_nth : K.lookup A_nth = some ⟨oc_nth, od_nth, .func (PySem.W.fnOf "_law_nth" "_law_nth" (defArgs s_law_nth) (defBody s_law_nth) (defScope s_law_nth) .none kV_nth dc_nth pm_nth an_nth cd_nth ct_nth), sl_nth⟩)
    (c_nth : PySem.W.codeIn K cd_nth "_law_nth" = true)
    (k_nth : PySem.W.keepIn K (.ref A_nth) = true)
    (a_draws : PySem.W.nsIn K mainGlobals "_law_draws" = some (some (.ref A_draws)))
    (l_draws : K.lookup A_draws = some ⟨oc_draws, od_draws, .func (PySem.W.fnOf "_law_draws" "_law_draws" (defArgs s_law_draws) (defBody s_law_draws) (defScope s_law_draws) .none kV_draws dc_draws pm_draws an_draws cd_draws ct_draws), sl_draws⟩)
    (c_draws : PySem.W.codeIn K cd_draws "_law_draws" = true)
    (k_draws : PySem.W.keepIn K (.ref A_draws) = true)
    (a_same : PySem.W.nsIn K mainGlobals "_law_same" = some (some (.ref A_same)))
    (l_same : K.lookup A_same = some ⟨oc_same, od_same, .func (PySem.W.fnOf "_law_same" "_law_same" (defArgs s_law_same) (defBody s_law_same) (defScope s_law_same) .none kV_same dc_same pm_same an_same cd_same ct_same), sl_same⟩)
    (c_same : PySem.W.codeIn K cd_same "_law_same" = true)
    (k_same : PySem.W.keepIn K (.ref A_same) = true)
    (a_lgcd : PySem.W.nsIn K mainGlobals "_law_gcd" = some (some (.ref A_lgcd)))
    (l_lgcd : K.lookup A_lgcd = some ⟨oc_lgcd, od_lgcd, .func (PySem.W.fnOf "_law_gcd" "_law_gcd" (defArgs s_law_gcd) (defBody s_law_gcd) (defScope s_law_gcd) .none kV_lgcd dc_lgcd pm_lgcd an_lgcd cd_lgcd ct_lgcd), sl_lgcd⟩)
    (c_lgcd : PySem.W.codeIn K cd_lgcd "_law_gcd" = true)
    (k_lgcd : PySem.W.keepIn K (.ref A_lgcd) = true)
    (a_over : PySem.W.nsIn K mainGlobals "_law_draw_over" = some (some (.ref A_over)))
    (l_over : K.lookup A_over = some ⟨oc_over, od_over, .func (PySem.W.fnOf "_law_draw_over" "_law_draw_over" (defArgs s_law_draw_over) (defBody s_law_draw_over) (defScope s_law_draw_over) .none kV_over dc_over pm_over an_over cd_over ct_over), sl_over⟩)
    (c_over : PySem.W.codeIn K cd_over "_law_draw_over" = true)
    (k_over : PySem.W.keepIn K (.ref A_over) = true)
    (a_interms : PySem.W.nsIn K mainGlobals "_law_in_terms" = some (some (.ref A_interms)))
    (l_interms : K.lookup A_interms = some ⟨oc_interms, od_interms, .func (PySem.W.fnOf "_law_in_terms" "_law_in_terms" (defArgs s_law_in_terms) (defBody s_law_in_terms) (defScope s_law_in_terms) .none kV_interms dc_interms pm_interms an_interms cd_interms ct_interms), sl_interms⟩)
    (c_interms : PySem.W.codeIn K cd_interms "_law_in_terms" = true)
    (k_interms : PySem.W.keepIn K (.ref A_interms) = true)
    (a_ispoint : PySem.W.nsIn K mainGlobals "_law_is_point" = some (some (.ref A_ispoint)))
    (l_ispoint : K.lookup A_ispoint = some ⟨oc_ispoint, od_ispoint, .func (PySem.W.fnOf "_law_is_point" "_law_is_point" (defArgs s_law_is_point) (defBody s_law_is_point) (defScope s_law_is_point) .none kV_ispoint dc_ispoint pm_ispoint an_ispoint cd_ispoint ct_ispoint), sl_ispoint⟩)
    (c_ispoint : PySem.W.codeIn K cd_ispoint "_law_is_point" = true)
    (k_ispoint : PySem.W.keepIn K (.ref A_ispoint) = true)
    (a_lturn : PySem.W.nsIn K mainGlobals "_law_turn" = some (some (.ref A_lturn)))
    (l_lturn : K.lookup A_lturn = some ⟨oc_lturn, od_lturn, .func (PySem.W.fnOf "_law_turn" "_law_turn" (defArgs s_law_turn) (defBody s_law_turn) (defScope s_law_turn) .none kV_lturn dc_lturn pm_lturn an_lturn cd_lturn ct_lturn), sl_lturn⟩)
    (c_lturn : PySem.W.codeIn K cd_lturn "_law_turn" = true)
    (k_lturn : PySem.W.keepIn K (.ref A_lturn) = true)
    (a_halfhull : PySem.W.nsIn K mainGlobals "_law_half_hull" = some (some (.ref A_halfhull)))
    (l_halfhull : K.lookup A_halfhull = some ⟨oc_halfhull, od_halfhull, .func (PySem.W.fnOf "_law_half_hull" "_law_half_hull" (defArgs s_law_half_hull) (defBody s_law_half_hull) (defScope s_law_half_hull) .none kV_halfhull dc_halfhull pm_halfhull an_halfhull cd_halfhull ct_halfhull), sl_halfhull⟩)
    (c_halfhull : PySem.W.codeIn K cd_halfhull "_law_half_hull" = true)
    (k_halfhull : PySem.W.keepIn K (.ref A_halfhull) = true)
    (a_hullof : PySem.W.nsIn K mainGlobals "_law_hull_of" = some (some (.ref A_hullof)))
    (l_hullof : K.lookup A_hullof = some ⟨oc_hullof, od_hullof, .func (PySem.W.fnOf "_law_hull_of" "_law_hull_of" (defArgs s_law_hull_of) (defBody s_law_hull_of) (defScope s_law_hull_of) .none kV_hullof dc_hullof pm_hullof an_hullof cd_hullof ct_hullof), sl_hullof⟩)
    (c_hullof : PySem.W.codeIn K cd_hullof "_law_hull_of" = true)
    (k_hullof : PySem.W.keepIn K (.ref A_hullof) = true)
    (a_drawspots : PySem.W.nsIn K mainGlobals "_law_draw_spots" = some (some (.ref A_drawspots)))
    (l_drawspots : K.lookup A_drawspots = some ⟨oc_drawspots, od_drawspots, .func (PySem.W.fnOf "_law_draw_spots" "_law_draw_spots" (defArgs s_law_draw_spots) (defBody s_law_draw_spots) (defScope s_law_draw_spots) .none kV_drawspots dc_drawspots pm_drawspots an_drawspots cd_drawspots ct_drawspots), sl_drawspots⟩)
    (c_drawspots : PySem.W.codeIn K cd_drawspots "_law_draw_spots" = true)
    (k_drawspots : PySem.W.keepIn K (.ref A_drawspots) = true)
    (a_drawshape : PySem.W.nsIn K mainGlobals "_law_draw_shape" = some (some (.ref A_drawshape)))
    (l_drawshape : K.lookup A_drawshape = some ⟨oc_drawshape, od_drawshape, .func (PySem.W.fnOf "_law_draw_shape" "_law_draw_shape" (defArgs s_law_draw_shape) (defBody s_law_draw_shape) (defScope s_law_draw_shape) .none kV_drawshape dc_drawshape pm_drawshape an_drawshape cd_drawshape ct_drawshape), sl_drawshape⟩)
    (c_drawshape : PySem.W.codeIn K cd_drawshape "_law_draw_shape" = true)
    (k_drawshape : PySem.W.keepIn K (.ref A_drawshape) = true)
    (a_made : PySem.W.nsIn K mainGlobals "_law_made_points" = some (some (.ref A_made)))
    (l_made : K.lookup A_made = some ⟨oc_made, od_made, .func (PySem.W.fnOf "_law_made_points" "_law_made_points" (defArgs s_law_made_points) (defBody s_law_made_points) (defScope s_law_made_points) .none kV_made dc_made pm_made an_made cd_made ct_made), sl_made⟩)
    (c_made : PySem.W.codeIn K cd_made "_law_made_points" = true)
    (k_made : PySem.W.keepIn K (.ref A_made) = true)
    (a_arepoints : PySem.W.nsIn K mainGlobals "_law_are_points" = some (some (.ref A_arepoints)))
    (l_arepoints : K.lookup A_arepoints = some ⟨oc_arepoints, od_arepoints, .func (PySem.W.fnOf "_law_are_points" "_law_are_points" (defArgs s_law_are_points) (defBody s_law_are_points) (defScope s_law_are_points) .none kV_arepoints dc_arepoints pm_arepoints an_arepoints cd_arepoints ct_arepoints), sl_arepoints⟩)
    (c_arepoints : PySem.W.codeIn K cd_arepoints "_law_are_points" = true)
    (k_arepoints : PySem.W.keepIn K (.ref A_arepoints) = true)
    (a_shows : PySem.W.nsIn K mainGlobals "_law_shows" = some (some (.ref A_shows)))
    (l_shows : K.lookup A_shows = some ⟨oc_shows, od_shows, .func (PySem.W.fnOf "_law_shows" "_law_shows" (defArgs s_law_shows) (defBody s_law_shows) (defScope s_law_shows) .none kV_shows dc_shows pm_shows an_shows cd_shows ct_shows), sl_shows⟩)
    (c_shows : PySem.W.codeIn K cd_shows "_law_shows" = true)
    (k_shows : PySem.W.keepIn K (.ref A_shows) = true)
    (a_law : PySem.W.nsIn K mainGlobals "law" = some (some (.ref A_law)))
    (l_law : K.lookup A_law = some ⟨oc_law, od_law, .func (PySem.W.fnOf "law" "law" (defArgs s_law) (defBody s_law) (defScope s_law) .none kV_law dc_law pm_law an_law cd_law ct_law), sl_law⟩)
    (c_law : PySem.W.codeIn K cd_law "law" = true)
    (k_law : PySem.W.keepIn K (.ref A_law) = true)
    : ∃ fd : FuncData, (∀ (s : Shared) (u : Value), BindsTo s fd ⟨[u], []⟩ [("_law_script", u)]) ∧ ∀ base : Heap, K.In base → base.Ns mainGlobals mg → FnOk l.prog w K mg base (L2N.CX l.prog w) 12 fa fd ["_law_script"] (spLaw K) := by
  have e := hfa.symm.trans (PySem.W.mg_of X G a_law)
  cases e
  have g_Point := PySem.W.mg_of X G a_Point
  have g_BadOver := PySem.W.mg_of X G a_BadOver
  have ox_BadOver : OexC K e_BadOver := ⟨⟨nm_BadOver, q_BadOver, N_BadOver, bs_BadOver, bm_BadOver, sn_BadOver, sub_BadOver, ab_BadOver, col_BadOver, dd_BadOver, m0_BadOver, m1_BadOver, m2_BadOver, m3_BadOver, m4_BadOver, x_BadOver, r_BadOver⟩, sa_BadOver, sx_BadOver, ty_BadOver, kc_BadOver⟩
  have F_iBadOver := fd_mk (st := s_BadOver_init) l_iBadOver c_iBadOver k_iBadOver
  have b_iBadOver := F_iBadOver.bindsN (ps := ["self", "over"]) fun _ _ _ _ _ _ us hl => match us, hl with | [_, _], _ => rfl
  have F_gcd := fd_mk (st := s_common_divisor) l_gcd c_gcd k_gcd
  have b_gcd := F_gcd.bindsN (ps := ["one", "two"]) fun _ _ _ _ _ _ us hl => match us, hl with | [_, _], _ => rfl
  have g_gcd := PySem.W.mg_of X G a_gcd
  have F_red := fd_mk (st := s_reduced) l_red c_red k_red
  have b_red := F_red.bindsN (ps := ["n", "d"]) fun _ _ _ _ _ _ us hl => match us, hl with | [_, _], _ => rfl
  have g_red := PySem.W.mg_of X G a_red
  have F_pinit := fd_mkD (st := s_Point_init) (dvs := [V.int 1]) l_pinit t_pinit (.cons (⟨tk0_pinit, rfl⟩) (.nil)) (fun z => nomatch z) c_pinit k_pinit
  obtain ⟨u0_pinit, v0_pinit, b0_pinit⟩ := F_pinit.binds1 (ps := ["self", "x", "y", "over"]) 3 0 (fun z => nomatch z) rfl fun T kV doc pm an cdv ct us its h1 h2 => match us, its, h1, h2 with | [_, _, _], [_], _, _ => ⟨_, rfl, rfl⟩
  obtain ⟨u1_pinit, v1_pinit, b1_pinit⟩ := F_pinit.binds1 (ps := ["self", "x", "y", "over"]) 4 1 (fun z => nomatch z) rfl fun T kV doc pm an cdv ct us its h1 h2 => match us, its, h1, h2 with | [_, _, _, _], [_], _, _ => ⟨_, rfl, rfl⟩
  have F_peq := fd_mk (st := s_Point_eq) l_peq c_peq k_peq
  have b_peq := F_peq.bindsN (ps := ["self", "other"]) fun _ _ _ _ _ _ us hl => match us, hl with | [_, _], _ => rfl
  have g_BadCount := PySem.W.mg_of X G a_BadCount
  have ox_BadCount : OexC K e_BadCount := ⟨⟨nm_BadCount, q_BadCount, N_BadCount, bs_BadCount, bm_BadCount, sn_BadCount, sub_BadCount, ab_BadCount, col_BadCount, dd_BadCount, m0_BadCount, m1_BadCount, m2_BadCount, m3_BadCount, m4_BadCount, x_BadCount, r_BadCount⟩, sa_BadCount, sx_BadCount, ty_BadCount, kc_BadCount⟩
  have F_iBadCount := fd_mk (st := s_BadCount_init) l_iBadCount c_iBadCount k_iBadCount
  have b_iBadCount := F_iBadCount.bindsN (ps := ["self", "count"]) fun _ _ _ _ _ _ us hl => match us, hl with | [_, _], _ => rfl
  have g_Bent := PySem.W.mg_of X G a_Bent
  have ox_Bent : OexC K e_Bent := ⟨⟨nm_Bent, q_Bent, N_Bent, bs_Bent, bm_Bent, sn_Bent, sub_Bent, ab_Bent, col_Bent, dd_Bent, m0_Bent, m1_Bent, m2_Bent, m3_Bent, m4_Bent, x_Bent, r_Bent⟩, sa_Bent, sx_Bent, ty_Bent, kc_Bent⟩
  have F_iBent := fd_mk (st := s_Bent_init) l_iBent c_iBent k_iBent
  have b_iBent := F_iBent.bindsN (ps := ["self", "at"]) fun _ _ _ _ _ _ us hl => match us, hl with | [_, _], _ => rfl
  have F_cmult := fd_mk (st := s_common_multiple) l_cmult c_cmult k_cmult
  have b_cmult := F_cmult.bindsN (ps := ["one", "two"]) fun _ _ _ _ _ _ us hl => match us, hl with | [_, _], _ => rfl
  have g_cmult := PySem.W.mg_of X G a_cmult
  have F_commonover := fd_mk (st := s_common_over) l_commonover c_commonover k_commonover
  have b_commonover := F_commonover.bindsN (ps := ["points"]) fun _ _ _ _ _ _ us hl => match us, hl with | [_], _ => rfl
  have g_commonover := PySem.W.mg_of X G a_commonover
  have F_placesof := fd_mk (st := s_places_of) l_placesof c_placesof k_placesof
  have b_placesof := F_placesof.bindsN (ps := ["points"]) fun _ _ _ _ _ _ us hl => match us, hl with | [_], _ => rfl
  have g_placesof := PySem.W.mg_of X G a_placesof
  have F_turn := fd_mk (st := s_turn) l_turn c_turn k_turn
  have b_turn := F_turn.bindsN (ps := ["start", "end", "place"]) fun _ _ _ _ _ _ us hl => match us, hl with | [_, _, _], _ => rfl
  have g_turn := PySem.W.mg_of X G a_turn
  have F_isbent := fd_mk (st := s_is_bent) l_isbent c_isbent k_isbent
  have b_isbent := F_isbent.bindsN (ps := ["places", "at"]) fun _ _ _ _ _ _ us hl => match us, hl with | [_, _], _ => rfl
  have g_isbent := PySem.W.mg_of X G a_isbent
  have g_Pen := PySem.W.mg_of X G a_Pen
  have F_ordered := fd_mk (st := s_ordered) l_ordered c_ordered k_ordered
  have b_ordered := F_ordered.bindsN (ps := ["corners"]) fun _ _ _ _ _ _ us hl => match us, hl with | [_], _ => rfl
  have g_ordered := PySem.W.mg_of X G a_ordered
  have F_peninit := fd_mk (st := s_Pen_init) l_peninit c_peninit k_peninit
  have b_peninit := F_peninit.bindsN (ps := ["self", "corners"]) fun _ _ _ _ _ _ us hl => match us, hl with | [_, _], _ => rfl
  have F_penget := fd_mk (st := s_Pen_corners_get) l_penget c_penget k_penget
  have b_penget := F_penget.bindsN (ps := ["self"]) fun _ _ _ _ _ _ us hl => match us, hl with | [_], _ => rfl
  have F_penset := fd_mk (st := s_Pen_corners) l_penset c_penset k_penset
  have b_penset := F_penset.bindsN (ps := ["self", "corners"]) fun _ _ _ _ _ _ us hl => match us, hl with | [_, _], _ => rfl
  have F_penchange := fd_mk (st := s_Pen_change) l_penchange c_penchange k_penchange
  have b_penchange := F_penchange.bindsN (ps := ["self", "corners"]) fun _ _ _ _ _ _ us hl => match us, hl with | [_, _], _ => rfl
  have F_peneq := fd_mk (st := s_Pen_eq) l_peneq c_peneq k_peneq
  have b_peneq := F_peneq.bindsN (ps := ["self", "other"]) fun _ _ _ _ _ _ us hl => match us, hl with | [_, _], _ => rfl
  have F_iterPen := fd_mk (st := s_Pen_iter) l_iterPen c_iterPen k_iterPen
  have b_iterPen := F_iterPen.bindsN (ps := ["self"]) fun _ _ _ _ _ _ us hl => match us, hl with | [_], _ => rfl
  have F_nth := fd_mk (st := s_law_nth) l_nth c_nth k_nth
  have b_nth := F_nth.bindsN (ps := ["_law_script", "_law_k"]) fun _ _ _ _ _ _ us hl => match us, hl with | [_, _], _ => rfl
  have g_nth := PySem.W.mg_of X G a_nth
  have F_draws := fd_mk (st := s_law_draws) l_draws c_draws k_draws
  have b_draws := F_draws.bindsN (ps := ["_law_cell", "_law_count"]) fun _ _ _ _ _ _ us hl => match us, hl with | [_, _], _ => rfl
  have g_draws := PySem.W.mg_of X G a_draws
  have F_same := fd_mk (st := s_law_same) l_same c_same k_same
  have b_same := F_same.bindsN (ps := ["_law_actual", "_law_due"]) fun _ _ _ _ _ _ us hl => match us, hl with | [_, _], _ => rfl
  have g_same := PySem.W.mg_of X G a_same
  have F_lgcd := fd_mk (st := s_law_gcd) l_lgcd c_lgcd k_lgcd
  have b_lgcd := F_lgcd.bindsN (ps := ["_law_one", "_law_two"]) fun _ _ _ _ _ _ us hl => match us, hl with | [_, _], _ => rfl
  have g_lgcd := PySem.W.mg_of X G a_lgcd
  have F_over := fd_mk (st := s_law_draw_over) l_over c_over k_over
  have b_over := F_over.bindsN (ps := ["_law_pool", "_law_at"]) fun _ _ _ _ _ _ us hl => match us, hl with | [_, _], _ => rfl
  have g_over := PySem.W.mg_of X G a_over
  have F_interms := fd_mk (st := s_law_in_terms) l_interms c_interms k_interms
  have b_interms := F_interms.bindsN (ps := ["_law_x", "_law_y", "_law_over"]) fun _ _ _ _ _ _ us hl => match us, hl with | [_, _, _], _ => rfl
  have g_interms := PySem.W.mg_of X G a_interms
  have F_ispoint := fd_mk (st := s_law_is_point) l_ispoint c_ispoint k_ispoint
  have b_ispoint := F_ispoint.bindsN (ps := ["_law_point", "_law_x", "_law_y", "_law_over"]) fun _ _ _ _ _ _ us hl => match us, hl with | [_, _, _, _], _ => rfl
  have g_ispoint := PySem.W.mg_of X G a_ispoint
  have F_lturn := fd_mk (st := s_law_turn) l_lturn c_lturn k_lturn
  have b_lturn := F_lturn.bindsN (ps := ["_law_start", "_law_end", "_law_spot"]) fun _ _ _ _ _ _ us hl => match us, hl with | [_, _, _], _ => rfl
  have g_lturn := PySem.W.mg_of X G a_lturn
  have F_halfhull := fd_mk (st := s_law_half_hull) l_halfhull c_halfhull k_halfhull
  have b_halfhull := F_halfhull.bindsN (ps := ["_law_spots"]) fun _ _ _ _ _ _ us hl => match us, hl with | [_], _ => rfl
  have g_halfhull := PySem.W.mg_of X G a_halfhull
  have F_hullof := fd_mk (st := s_law_hull_of) l_hullof c_hullof k_hullof
  have b_hullof := F_hullof.bindsN (ps := ["_law_spots"]) fun _ _ _ _ _ _ us hl => match us, hl with | [_], _ => rfl
  have g_hullof := PySem.W.mg_of X G a_hullof
  have F_drawspots := fd_mk (st := s_law_draw_spots) l_drawspots c_drawspots k_drawspots
  have b_drawspots := F_drawspots.bindsN (ps := ["_law_pool", "_law_at", "_law_count", "_law_reach"]) fun _ _ _ _ _ _ us hl => match us, hl with | [_, _, _, _], _ => rfl
  have g_drawspots := PySem.W.mg_of X G a_drawspots
  have F_drawshape := fd_mk (st := s_law_draw_shape) l_drawshape c_drawshape k_drawshape
  have b_drawshape := F_drawshape.bindsN (ps := ["_law_pool"]) fun _ _ _ _ _ _ us hl => match us, hl with | [_], _ => rfl
  have g_drawshape := PySem.W.mg_of X G a_drawshape
  have F_made := fd_mk (st := s_law_made_points) l_made c_made k_made
  have b_made := F_made.bindsN (ps := ["_law_spots", "_law_over"]) fun _ _ _ _ _ _ us hl => match us, hl with | [_, _], _ => rfl
  have g_made := PySem.W.mg_of X G a_made
  have F_arepoints := fd_mk (st := s_law_are_points) l_arepoints c_arepoints k_arepoints
  have b_arepoints := F_arepoints.bindsN (ps := ["_law_points", "_law_spots", "_law_over"]) fun _ _ _ _ _ _ us hl => match us, hl with | [_, _, _], _ => rfl
  have g_arepoints := PySem.W.mg_of X G a_arepoints
  have F_shows := fd_mk (st := s_law_shows) l_shows c_shows k_shows
  have b_shows := F_shows.bindsN (ps := ["_law_pen", "_law_spots", "_law_over"]) fun _ _ _ _ _ _ us hl => match us, hl with | [_, _, _], _ => rfl
  have g_shows := PySem.W.mg_of X G a_shows
  have F_law := fd_mk (st := s_law) l_law c_law k_law
  have b_law := F_law.bindsN (ps := ["_law_script"]) fun _ _ _ _ _ _ us hl => match us, hl with | [_], _ => rfl
  refine ⟨_, fun s u => F_law.bindsA (ps := ["_law_script"]) (fun _ _ _ _ _ _ us hl => match us, hl with | [_], _ => rfl) s [u] rfl, fun base _ _ => ?_⟩
  let W : Wd := ⟨l.prog, w, K, mg, base⟩
  let S : Sg := ⟨K, C, iX, iY, iO, fun i => if i = 0 then O_Pen else 0, fun i => if i = 4 then e_Bent else if i = 3 then e_BadCount else if i = 1 then e_BadOver else 0⟩
  have T : Mb W := ⟨PySem.W.mg_none_of X G z_abs, PySem.W.mg_none_of X G z_int, PySem.W.mg_none_of X G z_len, PySem.W.mg_none_of X G z_range, PySem.W.mg_none_of X G z_isinstance, PySem.W.mg_none_of X G z_bool, PySem.W.mg_none_of X G z_str, PySem.W.mg_none_of X G z_tuple, PySem.W.mg_none_of X G z_list, PySem.W.mg_none_of X G z_max, PySem.W.mg_none_of X G z_min, PySem.W.mg_none_of X G z_enumerate, PySem.W.mg_none_of X G z_sorted, PySem.W.mg_none_of X G z_set, PySem.W.mg_none_of X G z_sum, PySem.W.mg_none_of X G z_all, PySem.W.mg_none_of X G z_any, PySem.W.mg_none_of X G z_zip, PySem.W.mg_none_of X G z_iter, PySem.W.mg_none_of X G z_next, PySem.W.mg_none_of X G z_divmod, PySem.W.mg_none_of X G z_valueerror⟩
  have TP : PtC W S := ⟨g_Point, ⟨pg, ic, po, saP⟩, ⟨caP, cn, ctk, moP⟩, ⟨pX, sAX, sGX, sTX, sYX, sIX, sLX⟩, ⟨pY, sAY, sGY, sTY, sYY, sIY, sLY⟩, ⟨pO, sAO, sGO, sTO, sYO, sIO, sLO⟩, nXY, nXO, nYO⟩
  have E_BadOver : ErrC W S 1 "BadOver" ["over"] := by
    refine ⟨g_BadOver, ox_BadOver, ⟨ga_BadOver, gg_BadOver, sx_BadOver, hd_BadOver⟩, ⟨ga_BadOver, gg_BadOver, sx_BadOver, hd_BadOver, ca_BadOver, cn, ctk, mo_BadOver⟩, exmC_of sx_BadOver (kitC_of ic_BadOver ty_BadOver ss_BadOver), fun f hf => ?_, A_iBadOver, _, a_iBadOver, tf_iBadOver, err_init1 (W := W) F_iBadOver s_BadOver_init_sc rfl ox_BadOver nf_BadOver_over (.inl rfl) (.inl rfl) rfl rfl, b_iBadOver⟩
    rcases List.mem_cons.mp hf with rfl | hf
    · exact nf_BadOver_over
    · exact nomatch hf
  have ok_gcd : FnOk W.P W.w W.K W.mg W.base (L2N.CX W.P W.w) 1 A_gcd _ ["one", "two"] (spOf S 2 RGcd) := Ev.ok_gcd F_gcd rfl T 
  have f_gcd : Fn W S 1 "common_divisor" 2 [] RGcd := ⟨⟨A_gcd, _, _, ok_gcd, g_gcd, k_gcd, rfl, [], [], b_gcd, .nil, fun _ => .nil⟩⟩
  have ok_red : FnOk W.P W.w W.K W.mg W.base (L2N.CX W.P W.w) 3 A_red _ ["n", "d"] (spOf S 2 RRed) := Ev.ok_red F_red rfl T f_gcd E_BadOver
  have f_red : Fn W S 3 "reduced" 2 [] RRed := ⟨⟨A_red, _, _, ok_red, g_red, k_red, rfl, [], [], b_red, .nil, fun _ => .nil⟩⟩
  have ok_pinit := Ev.ok_pinit (W := W) (S := S) F_pinit rfl T TP f_gcd E_BadOver
  have f_pt : PtI W S 3 3 [] RPt := ⟨g_Point, A_pinit, _, _, ⟨mkP, a_pinit, i_pinit, kcP⟩, ok_pinit, rfl, [], _, b1_pinit, v1_pinit, fun _ => .nil⟩
  have f_pt2 : PtI W S 3 2 [.int 1] RPt := ⟨g_Point, A_pinit, _, _, ⟨mkP, a_pinit, i_pinit, kcP⟩, ok_pinit, rfl, [.int 1], _, b0_pinit, v0_pinit, fun _ => .cons (.int 1) .nil⟩
  have m_peq : FnM W S 1 A_peq 2 [] REq := ⟨_, _, Ev.ok_peq F_peq rfl T TP kitC_self (kitC_ty (kitC_of ic tyP tt)), rfl, [], [], b_peq, .nil, fun _ => .nil⟩
  have E_BadCount : ErrC W S 3 "BadCount" ["count"] := by
    refine ⟨g_BadCount, ox_BadCount, ⟨ga_BadCount, gg_BadCount, sx_BadCount, hd_BadCount⟩, ⟨ga_BadCount, gg_BadCount, sx_BadCount, hd_BadCount, ca_BadCount, cn, ctk, mo_BadCount⟩, exmC_of sx_BadCount (kitC_of ic_BadCount ty_BadCount ss_BadCount), fun f hf => ?_, A_iBadCount, _, a_iBadCount, tf_iBadCount, err_init1 (W := W) F_iBadCount s_BadCount_init_sc rfl ox_BadCount nf_BadCount_count (.inl rfl) (.inl rfl) rfl rfl, b_iBadCount⟩
    rcases List.mem_cons.mp hf with rfl | hf
    · exact nf_BadCount_count
    · exact nomatch hf
  have E_Bent : ErrC W S 4 "Bent" ["at"] := by
    refine ⟨g_Bent, ox_Bent, ⟨ga_Bent, gg_Bent, sx_Bent, hd_Bent⟩, ⟨ga_Bent, gg_Bent, sx_Bent, hd_Bent, ca_Bent, cn, ctk, mo_Bent⟩, exmC_of sx_Bent (kitC_of ic_Bent ty_Bent ss_Bent), fun f hf => ?_, A_iBent, _, a_iBent, tf_iBent, err_init1 (W := W) F_iBent s_Bent_init_sc rfl ox_Bent nf_Bent_at (.inl rfl) (.inl rfl) rfl rfl, b_iBent⟩
    rcases List.mem_cons.mp hf with rfl | hf
    · exact nf_Bent_at
    · exact nomatch hf
  have ok_cmult : FnOk W.P W.w W.K W.mg W.base (L2N.CX W.P W.w) 2 A_cmult _ ["one", "two"] (spOf S 2 RLcm) := Ev.ok_cmult F_cmult rfl T f_gcd
  have f_cmult : Fn W S 2 "common_multiple" 2 [] RLcm := ⟨⟨A_cmult, _, _, ok_cmult, g_cmult, k_cmult, rfl, [], [], b_cmult, .nil, fun _ => .nil⟩⟩
  have ok_commonover : FnOk W.P W.w W.K W.mg W.base (L2N.CX W.P W.w) 3 A_commonover _ ["points"] (spOf S 1 RCov) := Ev.ok_commonover F_commonover rfl T TP f_cmult
  have f_commonover : Fn W S 3 "common_over" 1 [] RCov := ⟨⟨A_commonover, _, _, ok_commonover, g_commonover, k_commonover, rfl, [], [], b_commonover, .nil, fun _ => .nil⟩⟩
  have ok_placesof : FnOk W.P W.w W.K W.mg W.base (L2N.CX W.P W.w) 4 A_placesof _ ["points"] (spOf S 1 RPlc) := Ev.ok_placesof F_placesof rfl T TP f_commonover
  have f_placesof : Fn W S 4 "places_of" 1 [] RPlc := ⟨⟨A_placesof, _, _, ok_placesof, g_placesof, k_placesof, rfl, [], [], b_placesof, .nil, fun _ => .nil⟩⟩
  have ok_turn : FnOk W.P W.w W.K W.mg W.base (L2N.CX W.P W.w) 1 A_turn _ ["start", "end", "place"] (spOf S 3 RTrn) := Ev.ok_turn F_turn rfl T 
  have f_turn : Fn W S 1 "turn" 3 [] RTrn := ⟨⟨A_turn, _, _, ok_turn, g_turn, k_turn, rfl, [], [], b_turn, .nil, fun _ => .nil⟩⟩
  have ok_isbent : FnOk W.P W.w W.K W.mg W.base (L2N.CX W.P W.w) 2 A_isbent _ ["places", "at"] (spOf S 2 RBent) := Ev.ok_isbent F_isbent rfl T f_turn
  have f_isbent : Fn W S 2 "is_bent" 2 [] RBent := ⟨⟨A_isbent, _, _, ok_isbent, g_isbent, k_isbent, rfl, [], [], b_isbent, .nil, fun _ => .nil⟩⟩
  have nof_Pen : ∀ f ∈ (["_corners"] : List Str), NoAttr K O_Pen f := by
    intro f hf
    rcases List.mem_cons.mp hf with rfl | hf
    · exact nf_Pen__corners
    exact nomatch hf
  have OB_Pen : ObC W S 0 "Pen" ["_corners"] := ⟨g_Pen, ⟨pg_Pen, hd_Pen, po_Pen, sa_Pen⟩, ⟨ca_Pen, cn, ctk, mo_Pen⟩, nof_Pen⟩
  have PM : PenM W S := most_of g_Pen ns_any ty_Pen ga_type st_type ga_Pen ct_type cf_Pen
  have ok_ordered : FnOk W.P W.w W.K W.mg W.base (L2N.CX W.P W.w) 5 A_ordered _ ["corners"] (spOf S 1 ROrd) := Ev.ok_ordered F_ordered rfl T TP PM f_placesof f_isbent E_BadCount E_Bent
  have f_ordered : Fn W S 5 "ordered" 1 [] ROrd := ⟨⟨A_ordered, _, _, ok_ordered, g_ordered, k_ordered, rfl, [], [], b_ordered, .nil, fun _ => .nil⟩⟩
  have f_pen : ObI W S 0 "Pen" 6 1 [] RPen := ⟨g_Pen, A_peninit, _, _, ⟨mk_peninit, a_peninit, i_peninit, kc_peninit⟩, Ev.ok_peninit (W := W) (S := S) F_peninit rfl T OB_Pen f_ordered, rfl, [], [], b_peninit, .nil, fun _ => .nil⟩
  have m_penget : PropO W S 0 "corners" 1 RGet := ⟨p_penget, A_penget, ⟨a_penget, pg_penget, pt_penget, ⟨rs_penget, pr_penget⟩⟩, ⟨_, _, Ev.ok_penget F_penget rfl T OB_Pen, rfl, [], [], b_penget, .nil, fun _ => .nil⟩⟩
  have p_set : SetP W S 0 "corners" 6 RSet := ⟨p_penget, A_penset, v_set, rs_set, _, _, tk_set, ty_set, rc_set, Ev.ok_penset (W := W) (S := S) F_penset rfl T OB_Pen f_ordered, rfl, b_penset⟩
  have x_change : MutC W S 0 "change" 9 2 RSetO := ⟨A_penchange, _, _, ⟨a_penchange, i_penchange, k_penchange⟩, Ev.ok_penchange (W := W) (S := S) F_penchange rfl T OB_Pen p_set, rfl, b_penchange⟩
  have neP : S.cO 0 ≠ S.cP := nePp
  have f_orderedN : Fn W S 5 "ordered" 1 [] ROrdN := ⟨⟨A_ordered, _, _, Ev.ok_orderedN (W := W) (S := S) F_ordered rfl T TP PM f_placesof f_isbent E_BadCount E_Bent, g_ordered, k_ordered, rfl, [], [], b_ordered, .nil, fun _ => .nil⟩⟩
  have f_penN : ObIN W S 0 "Pen" 6 1 "_corners" ROrdL := ⟨g_Pen, A_peninit, _, _, ⟨mk_peninit, a_peninit, i_peninit, kc_peninit⟩, Ev.ok_peninitN (W := W) (S := S) F_peninit rfl T OB_Pen f_orderedN, rfl, b_peninit⟩
  have p_setN : SetPN W S 0 "corners" 6 "_corners" ROrdL := ⟨p_penget, A_penset, v_set, rs_set, _, _, tk_set, ty_set, rc_set, Ev.ok_pensetN (W := W) (S := S) F_penset rfl T OB_Pen f_orderedN, rfl, b_penset⟩
  have x_changeN : MutN W S 0 "change" 9 2 "_corners" ROrdL := ⟨A_penchange, _, _, ⟨a_penchange, i_penchange, k_penchange⟩, Ev.ok_penchangeN (W := W) (S := S) F_penchange rfl T OB_Pen p_setN, rfl, b_penchange⟩
  have m_pengetN : PropO W S 0 "corners" 1 RGetN := ⟨p_penget, A_penget, ⟨a_penget, pg_penget, pt_penget, ⟨rs_penget, pr_penget⟩⟩, ⟨_, _, Ev.ok_pengetN F_penget rfl T OB_Pen, rfl, [], [], b_penget, .nil, fun _ => .nil⟩⟩
  have d_peneq : FnM W S 4 A_peneq 2 [] RPEq := ⟨_, _, Ev.ok_peneq F_peneq rfl T OB_Pen ⟨A_peq, m_peq, a_peq, i_peq, nfP⟩, rfl, [], [], b_peneq, .nil, fun _ => .nil⟩
  have m_peneq : OwnOp W S (S.cO 0) "__eq__" 4 2 RPEq := ⟨A_peneq, d_peneq, a_peneq, i_peneq⟩
  have d_peneqL : FnM W S 4 A_peneq 2 [] RPEqL := ⟨_, _, Ev.ok_peneqL F_peneq rfl T OB_Pen (kitC_ty (kitC_of icN ty_Pen tlN)), rfl, [], [], b_peneq, .nil, fun _ => .nil⟩
  have e_pen : ∃ q, FnM W S 4 q 2 [] RPEq ∧ FnM W S 4 q 2 [] RPEqL ∧ PySem.W.findIn W.K (.ref (S.cO 0)) "__eq__" = some (some (.ref q)) ∧ PySem.W.isFn W.K (.ref q) = true ∧ PySem.W.notFirst W.K (S.cO 0) (.ref (S.cO 0)) = true ∧ PySem.W.notFirst W.K (S.cO 0) (.type "list") = true := ⟨A_peneq, d_peneq, d_peneqL, a_peneq, i_peneq, nfN, nfL⟩
  have IT : IterC W S 0 "_corners" := ⟨A_iterPen, _, a_iterPen, i_iterPen, fun base => iter_ok (W := W) (S := S) base F_iterPen rfl s_Pen_iter_sc rfl T.iter OB_Pen (by simp) (.inl rfl) rfl, b_iterPen⟩
  have ok_nth : FnOk W.P W.w W.K W.mg W.base (L2N.CX W.P W.w) 1 A_nth _ ["_law_script", "_law_k"] (spOf S 2 RNth) := Ev.ok_nth F_nth rfl T 
  have f_nth : Fn W S 1 "_law_nth" 2 [] RNth := ⟨⟨A_nth, _, _, ok_nth, g_nth, k_nth, rfl, [], [], b_nth, .nil, fun _ => .nil⟩⟩
  have ok_draws : FnOk W.P W.w W.K W.mg W.base (L2N.CX W.P W.w) 1 A_draws _ ["_law_cell", "_law_count"] (spOf S 2 RDraws) := Ev.ok_draws F_draws rfl T 
  have f_draws : Fn W S 1 "_law_draws" 2 [] RDraws := ⟨⟨A_draws, _, _, ok_draws, g_draws, k_draws, rfl, [], [], b_draws, .nil, fun _ => .nil⟩⟩
  have ok_same : FnOk W.P W.w W.K W.mg W.base (L2N.CX W.P W.w) 4 A_same _ ["_law_actual", "_law_due"] (spOf S 2 (RSame 3)) := Ev.ok_same F_same rfl T g_same k_same b_same 3
  have f_same : Fn W S 4 "_law_same" 2 [] (RSame 3) := ⟨⟨A_same, _, _, ok_same, g_same, k_same, rfl, [], [], b_same, .nil, fun _ => .nil⟩⟩
  have ok_lgcd : FnOk W.P W.w W.K W.mg W.base (L2N.CX W.P W.w) 1 A_lgcd _ ["_law_one", "_law_two"] (spOf S 2 RGcd) := Ev.ok_lgcd F_lgcd rfl T 
  have f_lgcd : Fn W S 1 "_law_gcd" 2 [] RGcd := ⟨⟨A_lgcd, _, _, ok_lgcd, g_lgcd, k_lgcd, rfl, [], [], b_lgcd, .nil, fun _ => .nil⟩⟩
  have ok_over : FnOk W.P W.w W.K W.mg W.base (L2N.CX W.P W.w) 1 A_over _ ["_law_pool", "_law_at"] (spOf S 2 ROver) := Ev.ok_over F_over rfl T 
  have f_over : Fn W S 1 "_law_draw_over" 2 [] ROver := ⟨⟨A_over, _, _, ok_over, g_over, k_over, rfl, [], [], b_over, .nil, fun _ => .nil⟩⟩
  have ok_interms : FnOk W.P W.w W.K W.mg W.base (L2N.CX W.P W.w) 2 A_interms _ ["_law_x", "_law_y", "_law_over"] (spOf S 3 RTerms) := Ev.ok_interms F_interms rfl T f_lgcd
  have f_interms : Fn W S 2 "_law_in_terms" 3 [] RTerms := ⟨⟨A_interms, _, _, ok_interms, g_interms, k_interms, rfl, [], [], b_interms, .nil, fun _ => .nil⟩⟩
  have ok_ispoint : FnOk W.P W.w W.K W.mg W.base (L2N.CX W.P W.w) 6 A_ispoint _ ["_law_point", "_law_x", "_law_y", "_law_over"] (spOf S 4 RIsPt) := Ev.ok_ispoint F_ispoint rfl T TP f_same f_interms
  have f_ispoint : Fn W S 6 "_law_is_point" 4 [] RIsPt := ⟨⟨A_ispoint, _, _, ok_ispoint, g_ispoint, k_ispoint, rfl, [], [], b_ispoint, .nil, fun _ => .nil⟩⟩
  have ok_lturn : FnOk W.P W.w W.K W.mg W.base (L2N.CX W.P W.w) 1 A_lturn _ ["_law_start", "_law_end", "_law_spot"] (spOf S 3 RTrn) := Ev.ok_lturn F_lturn rfl T 
  have f_lturn : Fn W S 1 "_law_turn" 3 [] RTrn := ⟨⟨A_lturn, _, _, ok_lturn, g_lturn, k_lturn, rfl, [], [], b_lturn, .nil, fun _ => .nil⟩⟩
  have ok_halfhull : FnOk W.P W.w W.K W.mg W.base (L2N.CX W.P W.w) 2 A_halfhull _ ["_law_spots"] (spOf S 1 RHalf) := Ev.ok_halfhull F_halfhull rfl T f_lturn
  have f_halfhull : Fn W S 2 "_law_half_hull" 1 [] RHalf := ⟨⟨A_halfhull, _, _, ok_halfhull, g_halfhull, k_halfhull, rfl, [], [], b_halfhull, .nil, fun _ => .nil⟩⟩
  have ok_hullof : FnOk W.P W.w W.K W.mg W.base (L2N.CX W.P W.w) 3 A_hullof _ ["_law_spots"] (spOf S 1 RHull) := Ev.ok_hullof F_hullof rfl T f_halfhull
  have f_hullof : Fn W S 3 "_law_hull_of" 1 [] RHull := ⟨⟨A_hullof, _, _, ok_hullof, g_hullof, k_hullof, rfl, [], [], b_hullof, .nil, fun _ => .nil⟩⟩
  have ok_drawspots : FnOk W.P W.w W.K W.mg W.base (L2N.CX W.P W.w) 1 A_drawspots _ ["_law_pool", "_law_at", "_law_count", "_law_reach"] (spOf S 4 RSpt) := Ev.ok_drawspots F_drawspots rfl T 
  have f_drawspots : Fn W S 1 "_law_draw_spots" 4 [] RSpt := ⟨⟨A_drawspots, _, _, ok_drawspots, g_drawspots, k_drawspots, rfl, [], [], b_drawspots, .nil, fun _ => .nil⟩⟩
  have ok_drawshape : FnOk W.P W.w W.K W.mg W.base (L2N.CX W.P W.w) 4 A_drawshape _ ["_law_pool"] (spOf S 1 RShp) := Ev.ok_drawshape F_drawshape rfl T f_hullof f_drawspots
  have f_drawshape : Fn W S 4 "_law_draw_shape" 1 [] RShp := ⟨⟨A_drawshape, _, _, ok_drawshape, g_drawshape, k_drawshape, rfl, [], [], b_drawshape, .nil, fun _ => .nil⟩⟩
  have ok_made : FnOk W.P W.w W.K W.mg W.base (L2N.CX W.P W.w) 5 A_made _ ["_law_spots", "_law_over"] (spOf S 2 RMade) := Ev.ok_made F_made rfl T TP f_pt
  have f_made : Fn W S 5 "_law_made_points" 2 [] RMade := ⟨⟨A_made, _, _, ok_made, g_made, k_made, rfl, [], [], b_made, .nil, fun _ => .nil⟩⟩
  have ok_arepoints : FnOk W.P W.w W.K W.mg W.base (L2N.CX W.P W.w) 7 A_arepoints _ ["_law_points", "_law_spots", "_law_over"] (spOf S 3 RArP) := Ev.ok_arepoints F_arepoints rfl T f_ispoint
  have f_arepoints : Fn W S 7 "_law_are_points" 3 [] RArP := ⟨⟨A_arepoints, _, _, ok_arepoints, g_arepoints, k_arepoints, rfl, [], [], b_arepoints, .nil, fun _ => .nil⟩⟩
  have f_madeN : Fn W S 5 "_law_made_points" 2 [] RMadeN := ⟨⟨A_made, _, _, Ev.ok_madeN (W := W) (S := S) F_made rfl T TP f_pt, g_made, k_made, rfl, [], [], b_made, .nil, fun _ => .nil⟩⟩
  have ok_shows : FnOk W.P W.w W.K W.mg W.base (L2N.CX W.P W.w) 8 A_shows _ ["_law_pen", "_law_spots", "_law_over"] (spOf S 3 RShw) := Ev.ok_shows F_shows rfl T OB_Pen m_penget IT f_arepoints
  have f_shows : Fn W S 8 "_law_shows" 3 [] RShw := ⟨⟨A_shows, _, _, ok_shows, g_shows, k_shows, rfl, [], [], b_shows, .nil, fun _ => .nil⟩⟩
  exact (Ev.ok_law (W := W) (S := S) F_law rfl T TP OB_Pen PM neP f_nth f_draws f_same f_over f_drawshape f_made f_madeN f_arepoints f_interms f_shows f_pt f_pt2 f_pen f_penN x_changeN m_pengetN m_penget e_pen).imp fun vs H Q E hh => law_imp (S := S) hh
end Ev
theorem PySem.Challenge.cw_evenpen_k06_corners_of_a_pen_holds : PySem.Challenge.rw_evenpen_k06_corners_of_a_pen.Holds :=
  Ev.cw_aux @Ev.all_mk

