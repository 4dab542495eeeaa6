import PyProof.Rows.All
import Wide.All
import OpenK.AllK
import Wide.FinOn
import PySem.Challenge.RW_stackworks_k40_plans_between_piles
import HandS.ForMost
import HandS.Evl
import HandS.IsInst
import HandS.Deep
import HandS.TupAny
import HandS.Wide
import HandS.Style
import HandS.Property
import HandS.OwnEq
import HandS.Defaults
import HandS.Conv
import HandS.Zip
import Lean
import KE.KStateDown
import HandS.HeadHook1
import HandS.HeadHook2
import HandS.ExcIs
import HandS.Head0
import HandS.Head1
import HandS.Head2
import HandS.HeadEnd
import HandS.Star
import HandS.NoneIn
import HandS.Dict
import HandS.List
import KE.DataMinMax
import HandS.Exc
import HandS.TryOnly
import HandS.ExcOwn
import HandS.WordsExc
import HandS.ForSpec
import Open.SpecLaws
import KE.OsGo
import KE.KOpsOwn
import HandS.Iter
import HandS.Zip0
import PyProof.Draws
import HandS.More
import HandS.Text
import HandS.DictComp
import HandS.FStr
set_option hygiene false
local macro_rules | `(tactic| walk_at "W1") => `(tactic| (first
  | ((with_reducible apply wp_var); rfl)
  | (with_reducible apply wp_cI)
  | ((with_reducible apply wp_gtup); rfl)
  | (with_reducible apply cw_abs)
  | (with_reducible apply wp_cS)
  | (with_reducible apply wp_cN)
  | (with_reducible apply wp_cB)
  | ((with_reducible apply wp_lsx1); rfl)
  | (with_reducible apply wp_catR; with_reducible apply wn_cat; with_reducible apply wn_lrg)
  | ((with_reducible apply wp_catO); rfl)
  | (with_reducible apply wp_catS; with_reducible apply wn_cat; with_reducible apply wn_sl; rfl)
  | (with_reducible apply wp_rep; with_reducible apply wn_rep)
  | (with_reducible apply wp_op)
  | (with_reducible apply wn_cat; with_reducible apply wn_lrg)
  | (with_reducible apply wa_cons)
  | (with_reducible apply wa_nil)
  | ((with_reducible apply wa_star); rfl)
  | (with_reducible apply pys_py)
  | (with_reducible apply wp_cb)
  | (with_reducible apply ws_seq)
  | ((with_reducible refine ws_parP ?_ ?_ ?_ ?_); rotate_left 1; (exact Nat.le_of_ble_eq_true rfl); (exact Nat.le_of_ble_eq_true rfl); (decide))
  | ((with_reducible apply ws_augI); rfl)
  | ((with_reducible apply rw_ntN); rfl)
  | (with_reducible apply rw_ntNN)
  | (with_reducible apply wt_b)
  | ((with_reducible apply wp_din); rfl)
  | ((with_reducible apply wp_dnotin); rfl)
  | ((with_reducible apply wp_dget); rfl)
  | ((with_reducible apply ws_dput); rfl)
  | (with_reducible apply key_int)
  | (with_reducible apply key_str)
  | (with_reducible apply wn_dnew)
  | (with_reducible apply key_lab)
  | ((with_reducible apply wp_dget2); rfl; (first | exact dk1 | exact dk2 | exact dk3))
  | ((with_reducible apply wp_dget3); rfl; (first | exact dk1 | exact dk2 | exact dk3))
  | ((with_reducible apply wp_dnotin2); rfl; (first | exact dk1 | exact dk2 | exact dk3))
  | ((with_reducible apply ws_retL); rfl)
  | (with_reducible apply ws_retLN)
  | ((with_reducible apply wp_index); rfl; rfl)
  | ((with_reducible refine ws_set ?_ ?_); rotate_left 1; exact Nat.le_of_ble_eq_true rfl)
  | ((with_reducible refine ws_setO ?_ ?_); rotate_left 1; exact Nat.le_of_ble_eq_true rfl)
  | ((with_reducible refine ws_pair2 ?_ ?_ ?_ ?_); rotate_left 2; (exact Nat.le_of_ble_eq_true rfl); (exact Nat.le_of_ble_eq_true rfl); rfl)
  | (with_reducible apply tp2_mk)
  | ((with_reducible refine ws_tup2 ?_ ?_ ?_ ?_); rotate_left 2; (exact Nat.le_of_ble_eq_true rfl); (exact Nat.le_of_ble_eq_true rfl); rfl)
  | (with_reducible apply wn_lrg)
  | ((with_reducible apply wi_zip); rfl)
  | (with_reducible apply ws_ret)
  | (with_reducible apply ws_if)
  | (with_reducible apply wt_test)
  | (with_reducible apply bd_mk)
  | (with_reducible apply rw_aI)
  | (with_reducible apply rw_subI)
  | ((with_reducible apply rw_catL); rfl)
  | ((with_reducible apply rw_catL2); rfl)
  | ((with_reducible apply rw_catL3); rfl)
  | ((with_reducible apply rw_catL4); rfl)
  | ((with_reducible apply rw_addT); rfl)
  | (with_reducible apply lsi_py)
  | (with_reducible apply sq_out)
  | (with_reducible apply pd_out)
  | (with_reducible apply ls_out)
  | (with_reducible apply lsi_out)
  | (with_reducible apply rw_ltI)
  | (with_reducible apply rw_leI)
  | (with_reducible apply rw_gtI)
  | (with_reducible apply rw_geI)
  | ((with_reducible apply cw_lenI); rfl)
  | ((with_reducible apply cw_len); rfl)
  | (with_reducible apply one_mk)
  | (with_reducible apply two_mk)
  | (with_reducible apply lend_tup)
  | (with_reducible apply lend_own)
  | (with_reducible apply lend_py)
  | (with_reducible apply lend_brw)
  | (with_reducible apply wp_tup)
  | (with_reducible apply pys_cons)
  | (with_reducible apply pys_nil)
  | (with_reducible refine And.intro (Nat.le_of_ble_eq_true rfl) ?_)
  | (with_reducible apply rw_ixS2)
  | ((with_reducible apply rw_ixI2); rfl)
  | ((with_reducible apply rw_ix); rfl)
  | (with_reducible apply ixd_tup)
  | (with_reducible apply ixd_out)
  | (with_reducible apply lend_out)
  | (with_reducible apply ixd_own)
  | (with_reducible apply ixd_py)
  | (with_reducible apply ixd_brw)
  | ((with_reducible apply rw_eqI); rfl)
  | ((with_reducible apply rw_neI); rfl)
  | ((with_reducible apply rw_eqSt); rfl; (decide +kernel); (decide +kernel); (decide +kernel))
  | ((with_reducible apply rw_eqSf); rfl; (decide +kernel); (decide +kernel); (decide +kernel))
  | ((with_reducible apply rw_eq); rfl)
  | ((with_reducible apply rw_ne); rfl)
  | ((with_reducible apply rw_in); rfl)
  | ((with_reducible apply rw_ni); rfl)
  | (with_reducible apply pd_py)
  | (with_reducible apply pd_own)
  | (with_reducible apply pd_brw)
  | (with_reducible apply sqp_t)
  | (with_reducible apply sqp_l)
  | ((with_reducible apply wp_sl); rfl)
  | (with_reducible apply wo_no)
  | (with_reducible apply wo_some)
  | (with_reducible apply sld_tup)
  | (with_reducible apply sld_own)
  | (with_reducible apply sld_py)
  | (with_reducible apply id1_mk)
  | (with_reducible apply id2_mk)
  | (with_reducible apply wt_and)
  | (with_reducible apply wt_or)
  | (with_reducible apply wt_not)
  | (with_reducible apply wp_if)
  | (with_reducible apply wp_andV)
  | (with_reducible apply wp_orV)
  | (with_reducible apply wp_notV)
  | (with_reducible apply wp_chain)
  | ((with_reducible refine ws_par ?_ ?_ ?_); rotate_left 1; (exact Nat.le_of_ble_eq_true rfl); (exact Nat.le_of_ble_eq_true rfl))
  | (with_reducible refine And.intro (shp_int _) ?_)
  | (with_reducible refine And.intro (shp_src _) ?_)
  | (with_reducible refine And.intro (shp_srcs _) ?_)
  | (with_reducible refine And.intro (shp_inp _) ?_)
  | (with_reducible refine And.intro (shp_lit _) ?_)
  | (with_reducible refine And.intro shp_nilT ?_)
  | (with_reducible refine And.intro shp_nilL ?_)
  | (with_reducible refine And.intro (Eq.refl _) ?_)
  | ((with_reducible apply wp_ladle); rfl; rfl)
  | ((with_reducible apply wp_scoop); rfl; rfl)
  | ((with_reducible apply wp_cx); rfl)
  | ((with_reducible refine ws_parO ?_ ?_ ?_ ?_); rotate_left 1; (exact Nat.le_of_ble_eq_true rfl); (exact Nat.le_of_ble_eq_true rfl); (decide))
  | (with_reducible apply ws_retN)
  | (with_reducible apply ws_next)
  | (with_reducible apply ws_brk)
  | (with_reducible apply ws_cont)
  | ((with_reducible apply ws_app); rfl; rfl)
  | ((with_reducible apply ws_ins); rfl; rfl)
  | (with_reducible apply ws_drop)
  | ((with_reducible apply rw_mI); (exact wide_mul (a := 200) (b := 200) (by decide +kernel) (by decide +kernel) (by decide) (by decide) (by decide)))
  | ((with_reducible apply rw_modI); (first | decide | omega))
  | ((with_reducible apply rw_powI); (exact ⟨by decide, by decide, by decide +kernel, by decide⟩))
  | (with_reducible apply cw_max2)
  | (with_reducible apply cw_min2)
  | (with_reducible apply cw_int1)
  | (with_reducible apply bint_i)
  | (with_reducible apply bint_b)
  | ((with_reducible apply cw_tuple); rfl)
  | (with_reducible apply sq_tup)
  | (with_reducible apply sq_py)
  | (with_reducible apply sq_own)
  | (with_reducible apply sq_brw)
  | (with_reducible apply wp_atom)
  | ((with_reducible apply cw_isiB); rfl; rfl; rfl)
  | (with_reducible apply wp_un)
  | (with_reducible apply uw_neg)
  | ((with_reducible apply wt_tru); rfl)
  | (with_reducible apply td_bool)
  | (with_reducible apply td_tup)
  | (with_reducible apply td_own)
  | (with_reducible apply td_list)
  | (with_reducible apply td_int)
  | (with_reducible apply td_none)
  | ((with_reducible apply rw_addO); rfl)
  | ((with_reducible apply wp_callX); rfl)
  | ((with_reducible apply wp_fld); rfl)
  | ((with_reducible apply wp_prop); rfl)
  | ((with_reducible apply wp_meth); rfl)
  | ((with_reducible apply wp_make); rfl)
  | (with_reducible apply rw_neSS)
  | ((with_reducible apply wp_own); rfl)
  | (with_reducible apply ls_own)
  | (with_reducible apply ls_py)
  | (with_reducible apply ls_brw)
  | (with_reducible apply tp_mk)
  | (with_reducible apply py1_mk)
  | (with_reducible apply wn_lst)
  | ((with_reducible apply wn_rev); rfl)
  | (with_reducible apply wn_op)
  | (with_reducible apply wn_cb)
  | ((with_reducible apply cn_list); rfl)
  | (with_reducible apply wp_new; with_reducible apply wn_lst)
  | (with_reducible apply wp_new; with_reducible apply wn_rev; rfl)
  | (with_reducible apply cw_new; with_reducible apply cn_list; rfl)))
local macro_rules | `(tactic| walk_at "WK") => `(tactic| repeat (walk_at "W1"))
local macro_rules | `(tactic| walk_at "OM") => `(tactic| (first | omega | ((try dsimp only); omega)))
local macro_rules | `(tactic| walk_at "IF") => `(tactic| (refine ⟨fun hb => ?_, fun hb => ?_⟩))
local macro_rules | `(tactic| walk_at "J1") => `(tactic| (first
  | ((with_reducible apply wp_var); rfl)
  | (with_reducible apply wp_cI)
  | ((with_reducible apply wp_gtup); rfl)
  | (with_reducible apply cw_abs)
  | (with_reducible apply wp_cS)
  | (with_reducible apply wp_cN)
  | (with_reducible apply wp_cB)
  | ((with_reducible apply wp_lsx1); rfl)
  | (with_reducible apply wp_catR; with_reducible apply wn_cat; with_reducible apply wn_lrg)
  | ((with_reducible apply wp_catO); rfl)
  | (with_reducible apply wp_catS; with_reducible apply wn_cat; with_reducible apply wn_sl; rfl)
  | (with_reducible apply wp_rep; with_reducible apply wn_rep)
  | (with_reducible apply wp_op)
  | (with_reducible apply wn_cat; with_reducible apply wn_lrg)
  | (with_reducible apply wa_cons)
  | (with_reducible apply wa_nil)
  | ((with_reducible apply wa_star); rfl)
  | (with_reducible apply pys_py)
  | (with_reducible apply wp_cb)
  | ((with_reducible refine ws_parP ?_ ?_ ?_ ?_); rotate_left 1; (exact Nat.le_of_ble_eq_true rfl); (exact Nat.le_of_ble_eq_true rfl); (decide))
  | ((with_reducible apply ws_augI); rfl)
  | ((with_reducible apply rw_ntN); rfl)
  | (with_reducible apply rw_ntNN)
  | (with_reducible apply wt_b)
  | ((with_reducible apply wp_din); rfl)
  | ((with_reducible apply wp_dnotin); rfl)
  | ((with_reducible apply wp_dget); rfl)
  | ((with_reducible apply ws_dput); rfl)
  | (with_reducible apply key_int)
  | (with_reducible apply key_str)
  | (with_reducible apply wn_dnew)
  | (with_reducible apply key_lab)
  | ((with_reducible apply wp_dget2); rfl; (first | exact dk1 | exact dk2 | exact dk3))
  | ((with_reducible apply wp_dget3); rfl; (first | exact dk1 | exact dk2 | exact dk3))
  | ((with_reducible apply wp_dnotin2); rfl; (first | exact dk1 | exact dk2 | exact dk3))
  | ((with_reducible apply ws_retL); rfl)
  | (with_reducible apply ws_retLN)
  | ((with_reducible apply wp_index); rfl; rfl)
  | ((with_reducible refine ws_set ?_ ?_); rotate_left 1; exact Nat.le_of_ble_eq_true rfl)
  | ((with_reducible refine ws_setO ?_ ?_); rotate_left 1; exact Nat.le_of_ble_eq_true rfl)
  | ((with_reducible refine ws_pair2 ?_ ?_ ?_ ?_); rotate_left 2; (exact Nat.le_of_ble_eq_true rfl); (exact Nat.le_of_ble_eq_true rfl); rfl)
  | (with_reducible apply tp2_mk)
  | ((with_reducible refine ws_tup2 ?_ ?_ ?_ ?_); rotate_left 2; (exact Nat.le_of_ble_eq_true rfl); (exact Nat.le_of_ble_eq_true rfl); rfl)
  | (with_reducible apply wn_lrg)
  | ((with_reducible apply wi_zip); rfl)
  | (with_reducible apply ws_ret)
  | (with_reducible apply ws_if)
  | (with_reducible apply wt_test)
  | (with_reducible apply bd_mk)
  | (with_reducible apply rw_aI)
  | (with_reducible apply rw_subI)
  | ((with_reducible apply rw_catL); rfl)
  | ((with_reducible apply rw_catL2); rfl)
  | ((with_reducible apply rw_catL3); rfl)
  | ((with_reducible apply rw_catL4); rfl)
  | ((with_reducible apply rw_addT); rfl)
  | (with_reducible apply lsi_py)
  | (with_reducible apply sq_out)
  | (with_reducible apply pd_out)
  | (with_reducible apply ls_out)
  | (with_reducible apply lsi_out)
  | (with_reducible apply rw_ltI)
  | (with_reducible apply rw_leI)
  | (with_reducible apply rw_gtI)
  | (with_reducible apply rw_geI)
  | ((with_reducible apply cw_lenI); rfl)
  | ((with_reducible apply cw_len); rfl)
  | (with_reducible apply one_mk)
  | (with_reducible apply two_mk)
  | (with_reducible apply lend_tup)
  | (with_reducible apply lend_own)
  | (with_reducible apply lend_py)
  | (with_reducible apply lend_brw)
  | (with_reducible apply wp_tup)
  | (with_reducible apply pys_cons)
  | (with_reducible apply pys_nil)
  | (with_reducible refine And.intro (Nat.le_of_ble_eq_true rfl) ?_)
  | (with_reducible apply rw_ixS2)
  | ((with_reducible apply rw_ixI2); rfl)
  | ((with_reducible apply rw_ix); rfl)
  | (with_reducible apply ixd_tup)
  | (with_reducible apply ixd_out)
  | (with_reducible apply lend_out)
  | (with_reducible apply ixd_own)
  | (with_reducible apply ixd_py)
  | (with_reducible apply ixd_brw)
  | ((with_reducible apply rw_eqI); rfl)
  | ((with_reducible apply rw_neI); rfl)
  | ((with_reducible apply rw_eqSt); rfl; (decide +kernel); (decide +kernel); (decide +kernel))
  | ((with_reducible apply rw_eqSf); rfl; (decide +kernel); (decide +kernel); (decide +kernel))
  | ((with_reducible apply rw_eq); rfl)
  | ((with_reducible apply rw_ne); rfl)
  | ((with_reducible apply rw_in); rfl)
  | ((with_reducible apply rw_ni); rfl)
  | (with_reducible apply pd_py)
  | (with_reducible apply pd_own)
  | (with_reducible apply pd_brw)
  | (with_reducible apply sqp_t)
  | (with_reducible apply sqp_l)
  | ((with_reducible apply wp_sl); rfl)
  | (with_reducible apply wo_no)
  | (with_reducible apply wo_some)
  | (with_reducible apply sld_tup)
  | (with_reducible apply sld_own)
  | (with_reducible apply sld_py)
  | (with_reducible apply id1_mk)
  | (with_reducible apply id2_mk)
  | (with_reducible apply wt_and)
  | (with_reducible apply wt_or)
  | (with_reducible apply wt_not)
  | (with_reducible apply wp_if)
  | (with_reducible apply wp_andV)
  | (with_reducible apply wp_orV)
  | (with_reducible apply wp_notV)
  | (with_reducible apply wp_chain)
  | ((with_reducible refine ws_par ?_ ?_ ?_); rotate_left 1; (exact Nat.le_of_ble_eq_true rfl); (exact Nat.le_of_ble_eq_true rfl))
  | (with_reducible refine And.intro (shp_int _) ?_)
  | (with_reducible refine And.intro (shp_src _) ?_)
  | (with_reducible refine And.intro (shp_srcs _) ?_)
  | (with_reducible refine And.intro (shp_inp _) ?_)
  | (with_reducible refine And.intro (shp_lit _) ?_)
  | (with_reducible refine And.intro shp_nilT ?_)
  | (with_reducible refine And.intro shp_nilL ?_)
  | (with_reducible refine And.intro (Eq.refl _) ?_)
  | ((with_reducible apply wp_ladle); rfl; rfl)
  | ((with_reducible apply wp_scoop); rfl; rfl)
  | ((with_reducible apply wp_cx); rfl)
  | ((with_reducible refine ws_parO ?_ ?_ ?_ ?_); rotate_left 1; (exact Nat.le_of_ble_eq_true rfl); (exact Nat.le_of_ble_eq_true rfl); (decide))
  | (with_reducible apply ws_retN)
  | (with_reducible apply ws_next)
  | (with_reducible apply ws_brk)
  | (with_reducible apply ws_cont)
  | ((with_reducible apply ws_app); rfl; rfl)
  | ((with_reducible apply ws_ins); rfl; rfl)
  | (with_reducible apply ws_drop)
  | ((with_reducible apply rw_mI); (exact wide_mul (a := 200) (b := 200) (by decide +kernel) (by decide +kernel) (by decide) (by decide) (by decide)))
  | ((with_reducible apply rw_modI); (first | decide | omega))
  | ((with_reducible apply rw_powI); (exact ⟨by decide, by decide, by decide +kernel, by decide⟩))
  | (with_reducible apply cw_max2)
  | (with_reducible apply cw_min2)
  | (with_reducible apply cw_int1)
  | (with_reducible apply bint_i)
  | (with_reducible apply bint_b)
  | ((with_reducible apply cw_tuple); rfl)
  | (with_reducible apply sq_tup)
  | (with_reducible apply sq_py)
  | (with_reducible apply sq_own)
  | (with_reducible apply sq_brw)
  | (with_reducible apply wp_atom)
  | ((with_reducible apply cw_isiB); rfl; rfl; rfl)
  | (with_reducible apply wp_un)
  | (with_reducible apply uw_neg)
  | ((with_reducible apply wt_tru); rfl)
  | (with_reducible apply td_bool)
  | (with_reducible apply td_tup)
  | (with_reducible apply td_own)
  | (with_reducible apply td_list)
  | (with_reducible apply td_int)
  | (with_reducible apply td_none)
  | ((with_reducible apply rw_addO); rfl)
  | ((with_reducible apply wp_callX); rfl)
  | ((with_reducible apply wp_fld); rfl)
  | ((with_reducible apply wp_prop); rfl)
  | ((with_reducible apply wp_meth); rfl)
  | ((with_reducible apply wp_make); rfl)
  | (with_reducible apply rw_neSS)
  | ((with_reducible apply wp_own); rfl)
  | (with_reducible apply ls_own)
  | (with_reducible apply ls_py)
  | (with_reducible apply ls_brw)
  | (with_reducible apply tp_mk)
  | (with_reducible apply py1_mk)
  | (with_reducible apply wn_lst)
  | ((with_reducible apply wn_rev); rfl)
  | (with_reducible apply wn_op)
  | (with_reducible apply wn_cb)
  | ((with_reducible apply cn_list); rfl)
  | (with_reducible apply wp_new; with_reducible apply wn_lst)
  | (with_reducible apply wp_new; with_reducible apply wn_rev; rfl)
  | (with_reducible apply cw_new; with_reducible apply cn_list; rfl)))
local macro_rules | `(tactic| walk_at "WJ") => `(tactic| repeat (walk_at "J1"))
set_option hygiene true
/-! ### part V0 -/
set_option Elab.async false
set_option linter.all false
set_option maxRecDepth 100000
set_option maxHeartbeats 1000000
set_option autoImplicit false
/-! The statements of the linked text. -/
namespace Wx
open PySem L2
def top (i : Nat) : Stmt := PySem.Challenge.pw_stackworks_k40_plans_between_piles.main.body.getD i (.Pass ⟨0, 0, 0, 0⟩)
def inCls : Stmt → List Stmt
  | .ClassDef _ _ _ b _ _ _ _ _ _ _ => b
  | _ => []
def meth (i j : Nat) : Stmt := (inCls (top i)).getD j (.Pass ⟨0, 0, 0, 0⟩)
end Wx

/-! ### part E0 -/
set_option Elab.async false
set_option linter.all false
set_option maxRecDepth 100000
set_option maxHeartbeats 1000000
set_option autoImplicit false
/-! What the head looks at. -/
namespace Wx
open PySem L2 PyProof.Rows
abbrev veT : List Value := [.type "ValueError", .type "Exception", .type "BaseException", .type "object"]
def ex0B (K : PySem.W.Frag) (C : Addr) : Bool :=
  PySem.W.excIn K C veT "ValueError.__new__" && (PySem.W.keepIn K (.ref C) && (decide (PySem.W.typeIn K (.ref C) = some (.type "type")) && (decide (PySem.W.exmOne K (.ref C) (.ref C) = some true) && (decide (PySem.W.kitOne K (.ref C) (.type "ValueError") = some true) &&
  (He.eqO (PySem.W.findIn K (.ref C) "__getattribute__") (some (some (.builtin "BaseException.__getattribute__"))) && (He.eqO (PySem.W.findIn K (.ref C) "__getattr__") (some none) && (decide (PySem.W.subIn K (.ref C) (.type "BaseException") = some true) && (PySem.W.hasDictIn K C &&
  (He.eqO (PySem.W.findIn K (.ref C) "__class__") (some (some (.builtin "object.__class__"))) && (He.eqO (PySem.W.specialIn K (.builtin "object.__class__") "__get__") (some (some (.builtin "getset_descriptor.__get__"))) &&
  (decide (PySem.W.takesIn K (.builtin "object.__class__") = some true) && decide (PySem.W.mroIn K C (.type "object") = some true))))))))))))
end Wx

/-! ### part H8 -/
set_option Elab.async false
set_option linter.all false
set_option maxRecDepth 100000
set_option maxHeartbeats 0
set_option autoImplicit false
/-! The head: what stands behind the top. -/
namespace Wx
open PySem L2 PyProof.Rows
structure GetD where
  name : Str
  st : Stmt
def fnAt (K : PySem.W.Frag) (a : Addr) : He.FnW := match K.lookup a with
  | some ⟨_, _, .func fd, _⟩ => some (fd.name, fd.qualname, fd.params, fd.body, fd.scope, fd.globals, fd.closure, fd.builtins)
  | _ => none
def pad (K : PySem.W.Frag) (C : Addr) (f : Str) : Addr := match PySem.W.findIn K (.ref C) f with
  | some (some (.ref p)) => p
  | _ => 0
def gad (K : PySem.W.Frag) (C : Addr) (f : Str) : Addr := match PySem.W.recIn K (pad K C f) "property" with
  | some (.ref g :: _) => g
  | _ => 0
def dec {p : Prop} [Decidable p] (h : decide p = true) : p := of_decide_eq_true h
def getB (K : PySem.W.Frag) (C : Addr) (d : GetD) : Bool :=
  He.eqO (PySem.W.findIn K (.ref C) d.name) (some (some (.ref (pad K C d.name)))) && (He.eqO (PySem.W.specialIn K (.ref (pad K C d.name)) "__get__") (some (some (.builtin "property.__get__"))) &&
  (decide (PySem.W.takesIn K (.ref (pad K C d.name)) = some true) && ((match PySem.W.recIn K (pad K C d.name) "property" with
    | some (.ref _ :: _) => true
    | _ => false) && (PySem.W.keepIn K (.ref (gad K C d.name)) && (match K.lookup (gad K C d.name) with
      | some ⟨_, _, .func fd, _⟩ => PySem.W.codeIn K fd.code ("Program." ++ d.name) && (He.dflB K fd.defaults [] && He.kwdB K fd.kwdefaults [])
      | _ => false)))))
def getV (d : GetD) : He.FnW := some (d.name, "Program." ++ d.name, defArgs d.st, .stmts (defBody d.st), defScope d.st, mainGlobals, [], builtinsNs)
def d_is_int : He.DefD := ⟨("is_int", none), "is_int", "is_int", defArgs (top 18), defBody (top 18), defScope (top 18), [], []⟩
def d_in_range : He.DefD := ⟨("in_range", none), "in_range", "in_range", defArgs (top 19), defBody (top 19), defScope (top 19), [], []⟩
def d_is_constant : He.DefD := ⟨("is_constant", none), "is_constant", "is_constant", defArgs (top 20), defBody (top 20), defScope (top 20), [], []⟩
def d_is_decimal : He.DefD := ⟨("is_decimal", none), "is_decimal", "is_decimal", defArgs (top 21), defBody (top 21), defScope (top 21), [], []⟩
def d_is_constant_word : He.DefD := ⟨("is_constant_word", none), "is_constant_word", "is_constant_word", defArgs (top 22), defBody (top 22), defScope (top 22), [], []⟩
def d_is_instruction : He.DefD := ⟨("is_instruction", none), "is_instruction", "is_instruction", defArgs (top 23), defBody (top 23), defScope (top 23), [], []⟩
def d_measure_of : He.DefD := ⟨("measure_of", none), "measure_of", "measure_of", defArgs (top 24), defBody (top 24), defScope (top 24), [], []⟩
def d_words_of : He.DefD := ⟨("words_of", none), "words_of", "words_of", defArgs (top 25), defBody (top 25), defScope (top 25), [], []⟩
def d_first_wrong : He.DefD := ⟨("first_wrong", none), "first_wrong", "first_wrong", defArgs (top 26), defBody (top 26), defScope (top 26), [], []⟩
def d_nodes_from : He.DefD := ⟨("nodes_from", none), "nodes_from", "nodes_from", defArgs (top 27), defBody (top 27), defScope (top 27), [], []⟩
def d_nodes_in : He.DefD := ⟨("nodes_in", none), "nodes_in", "nodes_in", defArgs (top 28), defBody (top 28), defScope (top 28), [], []⟩
def d_joined_measure : He.DefD := ⟨("joined_measure", none), "joined_measure", "joined_measure", defArgs (top 29), defBody (top 29), defScope (top 29), [], []⟩
def d_measure_in : He.DefD := ⟨("measure_in", none), "measure_in", "measure_in", defArgs (top 31), defBody (top 31), defScope (top 31), [], []⟩
def d_is_plain_in : He.DefD := ⟨("is_plain_in", none), "is_plain_in", "is_plain_in", defArgs (top 32), defBody (top 32), defScope (top 32), [], []⟩
def d_length_in : He.DefD := ⟨("length_in", none), "length_in", "length_in", defArgs (top 33), defBody (top 33), defScope (top 33), [], []⟩
def d_open_in : He.DefD := ⟨("open_in", none), "open_in", "open_in", defArgs (top 34), defBody (top 34), defScope (top 34), [], []⟩
def d_is_symbol : He.DefD := ⟨("is_symbol", none), "is_symbol", "is_symbol", defArgs (top 41), defBody (top 41), defScope (top 41), [], []⟩
def d_is_pile : He.DefD := ⟨("is_pile", none), "is_pile", "is_pile", defArgs (top 42), defBody (top 42), defScope (top 42), [], []⟩
def d_require_pile : He.DefD := ⟨("require_pile", none), "require_pile", "require_pile", defArgs (top 43), defBody (top 43), defScope (top 43), [], []⟩
def d_counts_of : He.DefD := ⟨("counts_of", none), "counts_of", "counts_of", defArgs (top 44), defBody (top 44), defScope (top 44), [], []⟩
def d_standing_in : He.DefD := ⟨("standing_in", none), "standing_in", "standing_in", defArgs (top 45), defBody (top 45), defScope (top 45), [], []⟩
def d_fewest_behind : He.DefD := ⟨("fewest_behind", none), "fewest_behind", "fewest_behind", defArgs (top 46), defBody (top 46), defScope (top 46), [], []⟩
def d_best_between : He.DefD := ⟨("best_between", none), "best_between", "best_between", defArgs (top 47), defBody (top 47), defScope (top 47), [], []⟩
def d_fewest_between : He.DefD := ⟨("fewest_between", none), "fewest_between", "fewest_between", defArgs (top 48), defBody (top 48), defScope (top 48), [], []⟩
def d_sorted_out : He.DefD := ⟨("sorted_out", none), "sorted_out", "sorted_out", defArgs (top 49), defBody (top 49), defScope (top 49), [], []⟩
def d_topmost : He.DefD := ⟨("topmost", none), "topmost", "topmost", defArgs (top 50), defBody (top 50), defScope (top 50), [], []⟩
def d_cleared : He.DefD := ⟨("cleared", none), "cleared", "cleared", defArgs (top 51), defBody (top 51), defScope (top 51), [], []⟩
def d_plan_between : He.DefD := ⟨("plan_between", none), "plan_between", "plan_between", defArgs (top 52), defBody (top 52), defScope (top 52), [], []⟩
def d_words_known : He.DefD := ⟨("words_known", none), "words_known", "words_known", defArgs (top 53), defBody (top 53), defScope (top 53), [], []⟩
def d_fewest : He.DefD := ⟨("fewest", none), "fewest", "fewest", defArgs (top 54), defBody (top 54), defScope (top 54), [], []⟩
def d_plan : He.DefD := ⟨("plan", none), "plan", "plan", defArgs (top 55), defBody (top 55), defScope (top 55), [], []⟩
def d__law_jar : He.DefD := ⟨("_law_jar", none), "_law_jar", "_law_jar", defArgs (top 57), defBody (top 57), defScope (top 57), [], []⟩
def d__law_ladle : He.DefD := ⟨("_law_ladle", none), "_law_ladle", "_law_ladle", defArgs (top 58), defBody (top 58), defScope (top 58), [], []⟩
def d__law_label : He.DefD := ⟨("_law_label", none), "_law_label", "_law_label", defArgs (top 59), defBody (top 59), defScope (top 59), [], []⟩
def d__law_piles : He.DefD := ⟨("_law_piles", none), "_law_piles", "_law_piles", defArgs (top 60), defBody (top 60), defScope (top 60), [], []⟩
def d__law_fewest : He.DefD := ⟨("_law_fewest", none), "_law_fewest", "_law_fewest", defArgs (top 61), defBody (top 61), defScope (top 61), [], []⟩
def d__law_step : He.DefD := ⟨("_law_step", none), "_law_step", "_law_step", defArgs (top 62), defBody (top 62), defScope (top 62), [], []⟩
def d__law_done : He.DefD := ⟨("_law_done", none), "_law_done", "_law_done", defArgs (top 63), defBody (top 63), defScope (top 63), [], []⟩
def d__law_found : He.DefD := ⟨("_law_found", none), "_law_found", "_law_found", defArgs (top 64), defBody (top 64), defScope (top 64), [], []⟩
def d__law_right : He.DefD := ⟨("_law_right", none), "_law_right", "_law_right", defArgs (top 65), defBody (top 65), defScope (top 65), [], []⟩
def d_law : He.DefD := ⟨("law", none), "law", "law", defArgs (top 66), defBody (top 66), defScope (top 66), [], []⟩
def d_m__init__ : He.DefD := ⟨("Program", some "__init__"), "__init__", "Program.__init__", defArgs (meth 36 0), defBody (meth 36 0), defScope (meth 36 0), [], []⟩
def d_m__len__ : He.DefD := ⟨("Program", some "__len__"), "__len__", "Program.__len__", defArgs (meth 36 7), defBody (meth 36 7), defScope (meth 36 7), [], []⟩
def d_m__eq__ : He.DefD := ⟨("Program", some "__eq__"), "__eq__", "Program.__eq__", defArgs (meth 36 8), defBody (meth 36 8), defScope (meth 36 8), [], []⟩
def fn : List He.DefD := [d_is_int, d_in_range, d_is_constant, d_is_decimal, d_is_constant_word, d_is_instruction, d_measure_of, d_words_of, d_first_wrong, d_nodes_from, d_nodes_in, d_joined_measure, d_measure_in, d_is_plain_in, d_length_in, d_open_in, d_is_symbol, d_is_pile, d_require_pile, d_counts_of, d_standing_in, d_fewest_behind, d_best_between, d_fewest_between, d_sorted_out, d_topmost, d_cleared, d_plan_between, d_words_known, d_fewest, d_plan, d__law_jar, d__law_ladle, d__law_label, d__law_piles, d__law_fewest, d__law_step, d__law_done, d__law_found, d__law_right, d_law, d_m__init__, d_m__len__, d_m__eq__]
def fa : List He.Fa := [.glo "is_int", .glo "in_range", .glo "is_constant", .glo "is_decimal", .glo "is_constant_word", .glo "is_instruction", .glo "measure_of", .glo "words_of", .glo "first_wrong", .glo "nodes_from", .glo "nodes_in", .glo "joined_measure", .glo "measure_in", .glo "is_plain_in", .glo "length_in", .glo "open_in", .glo "is_symbol", .glo "is_pile", .glo "require_pile", .glo "counts_of", .glo "standing_in", .glo "fewest_behind", .glo "best_between", .glo "fewest_between", .glo "sorted_out", .glo "topmost", .glo "cleared", .glo "plan_between", .glo "words_known", .glo "fewest", .glo "plan", .glo "_law_jar", .glo "_law_ladle", .glo "_law_label", .glo "_law_piles", .glo "_law_fewest", .glo "_law_step", .glo "_law_done", .glo "_law_found", .glo "_law_right", .glo "law", .glo "Program", .free "isinstance", .free "int", .free "bool", .free "all", .free "len", .free "enumerate", .free "tuple", .free "max", .free "str", .free "sum", .free "range", .free "list", .free "min", .free "ValueError", .free "dict", .free "repr", .int "GREATEST" (10 ^ 30), .int "MOST_DIGITS" 31, .int "MOST_HIGH" 100, .int "MOST_WORDS" 1000, .int "MOST_LETTERS" 8, .int "MOST_LABELS" 60, .str "DIGITS" "0123456789", .str "LETTERS" "abcdefghijklmnopqrstuvwxyz", .glo "NotReachable", .cls "Program", .noat "Program" "own_text", .noat "Program" "own_words", .noat "Program" "own_nodes", .noat "Program" "own_need", .noat "Program" "own_rise", .noat "Program" "own_growth", .noat "Program" "own_plain", .noat "Program" "own_steps", .noat "Program" "own_open", .mkr "Program", .meth "Program" "__len__", .meth "Program" "__eq__"]
def loose : List Str := [("StackError" : Str), ("InvalidText" : Str), ("TooHigh" : Str), ("TooLarge" : Str), ("TooDeep" : Str), ("InvalidProgram" : Str), ("InvalidTimes" : Str), ("InvalidPile" : Str), ("NotReachable" : Str), ("DIGITS" : Str), ("GREATEST" : Str), ("MOST_DIGITS" : Str), ("MOST_WORDS" : Str), ("MOST_OPEN" : Str), ("MOST_TIMES" : Str), ("MOST_HIGH" : Str), ("is_int" : Str), ("in_range" : Str), ("is_constant" : Str), ("is_decimal" : Str), ("is_constant_word" : Str), ("is_instruction" : Str), ("measure_of" : Str), ("words_of" : Str), ("first_wrong" : Str), ("nodes_from" : Str), ("nodes_in" : Str), ("joined_measure" : Str), ("repeated_measure" : Str), ("measure_in" : Str), ("is_plain_in" : Str), ("length_in" : Str), ("open_in" : Str), ("joined_text" : Str), ("Program" : Str), ("MOST_LABELS" : Str), ("MOST_LETTERS" : Str), ("LETTERS" : Str), ("is_symbol" : Str), ("is_pile" : Str), ("require_pile" : Str), ("counts_of" : Str), ("standing_in" : Str), ("fewest_behind" : Str), ("best_between" : Str), ("fewest_between" : Str), ("sorted_out" : Str), ("topmost" : Str), ("cleared" : Str), ("plan_between" : Str), ("words_known" : Str), ("fewest" : Str), ("plan" : Str), ("_law_jar" : Str), ("_law_ladle" : Str), ("_law_label" : Str), ("_law_piles" : Str), ("_law_fewest" : Str), ("_law_step" : Str), ("_law_done" : Str), ("_law_found" : Str), ("_law_right" : Str)]
def gs : List GetD := [⟨"text", (meth 36 1)⟩, ⟨"is_plain", (meth 36 5)⟩, ⟨"steps", (meth 36 6)⟩]
def six : List String := ["NoneType", "bool", "int", "str", "list", "tuple"]
def clsB (K : PySem.W.Frag) (C : Addr) : Bool :=
  He.eqO (PySem.W.findIn K (.ref C) "__class__") (some (some (.builtin "object.__class__"))) && (He.eqO (PySem.W.specialIn K (.builtin "object.__class__") "__get__") (some (some (.builtin "getset_descriptor.__get__"))) &&
  (decide (PySem.W.takesIn K (.builtin "object.__class__") = some true) && (decide (PySem.W.mroIn K C (.type "object") = some true) && (decide (PySem.W.kitOne K (.ref C) (.ref C) = some true) &&
  ((six.all fun s => decide (PySem.W.kitOne K (.type s) (.ref C) = some false) && PySem.W.notFirst K C (.type s)) && (He.eqO (PySem.W.findIn K (.ref C) "__ne__") (some (some (.builtin "object.__ne__"))) && (PySem.W.selfFirst K C && (true && gs.all fun d => getB K C d))))))))
def clsE (K : PySem.W.Frag) : Bool := clsB K (He.ga K "Program") && (ex0B K (He.ga K "NotReachable"))
structure More (K : PySem.W.Frag) : Prop where
  b : clsE K = true
  v : gs.map (fun d => fnAt K (gad K (He.ga K "Program") d.name)) = gs.map getV
abbrev Al : Type := Bool × He.AlD × List He.FnW
def obsX (K : PySem.W.Frag) : Al := (clsE K, He.obsD fa fn K, gs.map fun d => fnAt K (gad K (He.ga K "Program") d.name))
def valX : Al := (true, He.valD fn, gs.map getV)
theorem says_of {K : PySem.W.Frag} (e : obsX K = valX) : He.SaysD fa fn K ∧ More K := ⟨congrArg (fun z : Al => z.2.1) e, congrArg (fun z : Al => z.1) e, congrArg (fun z : Al => z.2.2) e⟩
def obG (n : Nat) (g : Addr → Option Obj) : Al := obsX (He.frG g (He.asD g n))
def hk : PySem.W.Hook where
  α := Al
  obs := fun s => obG 7 s.heap.get?
  val := fun _ => valX
  says := fun _ h => ∃ K : PySem.W.Frag, K.In h ∧ He.SaysD fa fn K ∧ More K
  of := fun _ _ e => ⟨_, He.frG_in, says_of e⟩
  keeps := fun _ _ _ ⟨K, h1, h2⟩ k => ⟨K, PySem.W.Frag.In.keeps h1 k, h2⟩
abbrev RR : PySem.W.OpenRow := PySem.W.OpenLaw.row PySem.Challenge.rw_stackworks_k40_plans_between_piles
def ob (s : PySem.W.SharedT) : Al := obG 7 (HandSHeadRun.getT s)
theorem ob_eq (s : PySem.W.SharedT) : ob s = hk.obs s.abs := by
  have e : HandSHeadRun.getT s = s.abs.heap.get? := funext (HandSHeadRun.getT_eq s)
  unfold ob
  rw [e]
  rfl

theorem run (w : World) : HandSHeadRun.RunEq RR (PySem.W.view RR.prog [66]) hk ob 8000 loose w := by
  intro os
  kernel_rfl
end Wx

/-! ### part Wx -/
set_option Elab.async false
set_option linter.all false
set_option maxRecDepth 100000
set_option maxHeartbeats 1000000
set_option autoImplicit false
/-! A calculus of data over HandS: what an expression is worth (Wp), a test (Wt), arguments (Wa), a statement (Ws), told by data alone; the heap is carried once, here. -/
namespace Wx
open PySem L2

/-! ## data at an address, apart from a set of places that move -/
mutual
inductive Da (K : PySem.W.Frag) (S : Addr → Prop) (H : Hp) : V → PyData → Prop
  | non : Da K S H .non .none
  | bl (b : Bool) : Da K S H (.bl b) (.bool b)
  | int (i : Int) : Da K S H (.int i) (.int i)
  | str (x : Str) : Da K S H (.str x) (.str x)
  | lst {a : Addr} {xs : List V} {ds : List PyData} : ¬ S a → Rd H a (.lst xs) → DaL K S H xs ds → Da K S H (.ref a) (.list ds)
  | tup {a : Addr} {xs : List V} {ds : List PyData} : ¬ S a → Rd H a (.tup xs) → DaL K S H xs ds → Da K S H (.ref a) (.tuple ds)
  | lstK {a : Addr} {xs : List V} {ds : List PyData} : (∀ G : Hp, SqL K G a xs) → DaL K S H xs ds → Da K S H (.ref a) (.list ds)
  | tupK {a : Addr} {xs : List V} {ds : List PyData} : (∀ G : Hp, SqT K G a xs) → DaL K S H xs ds → Da K S H (.ref a) (.tuple ds)
inductive DaL (K : PySem.W.Frag) (S : Addr → Prop) (H : Hp) : List V → List PyData → Prop
  | nil : DaL K S H [] []
  | cons {v : V} {vs : List V} {d : PyData} {ds : List PyData} : Da K S H v d → DaL K S H vs ds → DaL K S H (v :: vs) (d :: ds)
end

section
variable {K : PySem.W.Frag} {S T : Addr → Prop} {H H' : Hp} {v : V} {d : PyData} {vs : List V} {ds : List PyData}
/-- what is read stays, if it is not at a place that moves -/
def Kept (S : Addr → Prop) (H H' : Hp) : Prop := ∀ a o, ¬ S a → H a = some o → H' a = some o
theorem Kept.refl : Kept S H H := fun _ _ _ h => h
theorem Kept.trans {H1 H2 : Hp} (a : Kept S H H1) (b : Kept S H1 H2) : Kept S H H2 := fun x o n h => b x o n (a x o n h)
theorem Kept.rd (k : Kept S H H') {a : Addr} {u : HO} (n : ¬ S a) (r : Rd H a u) : Rd H' a u := by
  rcases r with r | ⟨o, r⟩
  · exact .inl (k a _ n r)
  · exact .inr ⟨o, k a _ n r⟩
mutual
theorem Da.keep (k : Kept S H H') : ∀ {v : V} {d : PyData}, Da K S H v d → Da K S H' v d
  | _, _, .non => .non
  | _, _, .bl b => .bl b
  | _, _, .int i => .int i
  | _, _, .str x => .str x
  | _, _, .lst n r t => .lst n (k.rd n r) (DaL.keep k t)
  | _, _, .tup n r t => .tup n (k.rd n r) (DaL.keep k t)
  | _, _, .lstK r t => .lstK r (DaL.keep k t)
  | _, _, .tupK r t => .tupK r (DaL.keep k t)
theorem DaL.keep (k : Kept S H H') : ∀ {vs : List V} {ds : List PyData}, DaL K S H vs ds → DaL K S H' vs ds
  | _, _, .nil => .nil
  | _, _, .cons h t => .cons (Da.keep k h) (DaL.keep k t)
end
mutual
theorem Da.less (w : ∀ a, T a → S a) : ∀ {v : V} {d : PyData}, Da K S H v d → Da K T H v d
  | _, _, .non => .non
  | _, _, .bl b => .bl b
  | _, _, .int i => .int i
  | _, _, .str x => .str x
  | _, _, .lst n r t => .lst (fun z => n (w _ z)) r (DaL.less w t)
  | _, _, .tup n r t => .tup (fun z => n (w _ z)) r (DaL.less w t)
  | _, _, .lstK r t => .lstK r (DaL.less w t)
  | _, _, .tupK r t => .tupK r (DaL.less w t)
theorem DaL.less (w : ∀ a, T a → S a) : ∀ {vs : List V} {ds : List PyData}, DaL K S H vs ds → DaL K T H vs ds
  | _, _, .nil => .nil
  | _, _, .cons h t => .cons (Da.less w h) (DaL.less w t)
end
theorem DaL.len : ∀ {vs : List V} {ds : List PyData}, DaL K S H vs ds → vs.length = ds.length
  | _, _, .nil => rfl
  | _, _, .cons _ t => by simp only [List.length_cons]; rw [DaL.len t]
theorem DaL.get : ∀ {vs : List V} {ds : List PyData} {i : Nat} {d : PyData}, DaL K S H vs ds → ds[i]? = some d → ∃ v, vs[i]? = some v ∧ Da K S H v d
  | _, _, i, _, .nil, h => by simp at h
  | _, _, 0, _, .cons h _, e => by simp at e; subst e; exact ⟨_, rfl, h⟩
  | _, _, i + 1, d, .cons _ t, e => by
    obtain ⟨v, h1, h2⟩ := DaL.get (i := i) (d := d) t (by simpa using e)
    exact ⟨v, by simpa using h1, h2⟩
theorem DaL.got : ∀ {vs : List V} {ds : List PyData} {i : Nat} {v : V}, DaL K S H vs ds → vs[i]? = some v → ∃ d, ds[i]? = some d ∧ Da K S H v d
  | _, _, i, _, .nil, h => by simp at h
  | _, _, 0, _, .cons h _, e => by simp at e; subst e; exact ⟨_, rfl, h⟩
  | _, _, i + 1, v, .cons _ t, e => by
    obtain ⟨d, h1, h2⟩ := DaL.got (i := i) (v := v) t (by simpa using e)
    exact ⟨d, by simpa using h1, h2⟩
theorem DaL.append : ∀ {vs ws : List V} {ds es : List PyData}, DaL K S H vs ds → DaL K S H ws es → DaL K S H (vs ++ ws) (ds ++ es)
  | _, _, _, _, .nil, h => h
  | _, _, _, _, .cons h t, u => .cons h (DaL.append t u)
theorem DaL.take : ∀ {vs : List V} {ds : List PyData} (n : Nat), DaL K S H vs ds → DaL K S H (vs.take n) (ds.take n)
  | _, _, 0, _ => .nil
  | _, _, _ + 1, .nil => .nil
  | _, _, n + 1, .cons h t => .cons h (DaL.take n t)
theorem DaL.drop : ∀ {vs : List V} {ds : List PyData} (n : Nat), DaL K S H vs ds → DaL K S H (vs.drop n) (ds.drop n)
  | _, _, 0, h => h
  | _, _, _ + 1, .nil => .nil
  | _, _, n + 1, .cons _ t => DaL.drop n t
theorem DaL.nil_iff (h : DaL K S H vs ds) : vs = [] ↔ ds = [] := by
  cases h with
  | nil => simp
  | cons _ _ => simp
mutual
theorem Da.dp : ∀ {v : V} {d : PyData}, Da K S H v d → Dp K H v d
  | _, _, .non => .non
  | _, _, .bl b => .bl b
  | _, _, .int i => .int i
  | _, _, .str x => .str x
  | _, _, .lst _ r t => .lst (.inl r) (DaL.dp t)
  | _, _, .tup _ r t => .tup (.inl r) (DaL.dp t)
  | _, _, .lstK r t => .lst (r H) (DaL.dp t)
  | _, _, .tupK r t => .tup (r H) (DaL.dp t)
theorem DaL.dp : ∀ {vs : List V} {ds : List PyData}, DaL K S H vs ds → DpAll K H vs ds
  | _, _, .nil => .nil
  | _, _, .cons h t => .cons (Da.dp h) (DaL.dp t)
end
theorem Da.int_eq {i : Int} (h : Da K S H v (.int i)) : v = .int i := by cases h; rfl
theorem Da.bl_eq {b : Bool} (h : Da K S H v (.bool b)) : v = .bl b := by cases h; rfl
theorem Da.str_eq {x : Str} (h : Da K S H v (.str x)) : v = .str x := by cases h; rfl
theorem Da.non_eq (h : Da K S H v .none) : v = .non := by cases h; rfl
theorem Da.list_at (h : Da K S H v (.list ds)) : ∃ a xs, v = .ref a ∧ SqL K H a xs ∧ DaL K S H xs ds := by
  cases h with
  | lst n r t => exact ⟨_, _, rfl, .inl r, t⟩
  | lstK r t => exact ⟨_, _, rfl, r H, t⟩
theorem Da.tuple_at (h : Da K S H v (.tuple ds)) : ∃ a xs, v = .ref a ∧ SqT K H a xs ∧ DaL K S H xs ds := by
  cases h with
  | tup n r t => exact ⟨_, _, rfl, .inl r, t⟩
  | tupK r t => exact ⟨_, _, rfl, r H, t⟩
end

/-! ## what a name may hold -/
/-- what one holds alone, and may change -/
inductive Ow where
  | lst (ds : List PyData)
  | dct (ds : List (Key × PyData))
  | ins (C : Addr) (fs : List (Str × PyData))
  | lsi (C : Addr) (gs : List (List (Str × PyData)))
inductive D where
  | py (p : PyData)
  | mine (w : Ow)
  | dct (ds : List (Key × PyData))
  | dcl (ds : List (Key × PyData))
  | brw (ds : List PyData)
  | ins (C : Addr) (fs : List (Str × PyData))
  | atom (v : V)
  | kln
  | lsx

def D.nm : D → Bool
  | .mine _ => false
  | _ => true
/-- K: the written part; k: where the draws' list stands; S0: places of the callers that are not to be shared -/
structure Cy where
  K : PySem.W.Frag
  k : Option Addr
  S0 : Addr → Prop
  hk : ∀ a, k = some a → S0 a

def KlnAt (n : Nat) (o : Option HO) : Prop := ∃ a b m : Int, o = some (.lst [.int a, .int b, .int m]) ∧ 0 ≤ a ∧ 0 ≤ b ∧ b < 2 ^ 300 ∧ 0 ≤ m ∧ m ≤ (n : Int)
structure Good (c : Cy) (n : Nat) (H : Hp) : Prop where
  al : ∀ a, c.S0 a → H a ≠ none
  kl : ∀ a, c.k = some a → KlnAt n (H a)
/-- all but the draws' list stays -/
def Ek (c : Cy) (H H' : Hp) : Prop := Kept (fun a => c.k = some a) H H'

def FsR (K : PySem.W.Frag) (S : Addr → Prop) (H : Hp) : List (Str × V) → List (Str × PyData) → Prop
  | [], [] => True
  | (x, v) :: r, (y, d) :: s => x = y ∧ Da K S H v d ∧ FsR K S H r s
  | _, _ => False
def KvR (K : PySem.W.Frag) (S : Addr → Prop) (H : Hp) : List (Key × V) → List (Key × PyData) → Prop
  | [], [] => True
  | (x, v) :: r, (y, d) :: s => x = y ∧ Da K S H v d ∧ KvR K S H r s
  | _, _ => False
def InsL (K : PySem.W.Frag) (S : Addr → Prop) (H : Hp) (C : Addr) : List V → List (List (Str × PyData)) → Prop
  | [], [] => True
  | v :: r, g :: s => (∃ b dx vs, v = .ref b ∧ ¬ S b ∧ H b = some (.ins C dx vs) ∧ FsR K S H vs g) ∧ InsL K S H C r s
  | _, _ => False
def OwAt (K : PySem.W.Frag) (A : Addr → Prop) (H : Hp) (a : Addr) : Ow → Prop
  | .lst ds => ∃ xs, H a = some (.lst xs) ∧ DaL K A H xs ds
  | .dct ds => ∃ kvs, H a = some (.dK kvs) ∧ KvR K A H kvs ds
  | .ins C fs => ∃ dx vs, H a = some (.ins C dx vs) ∧ FsR K A H vs fs
  | .lsi C gs => ∃ xs, H a = some (.lst xs) ∧ InsL K A H C xs gs
def DX (c : Cy) (A : Addr → Prop) (H : Hp) (v : V) : D → Prop
  | .py p => Da c.K A H v p
  | .mine w => ∃ a, v = .ref a ∧ ¬ c.S0 a ∧ A a ∧ OwAt c.K A H a w
  | .dct ds => ∃ a kvs, v = .ref a ∧ ¬ A a ∧ H a = some (.dK kvs) ∧ KvR c.K A H kvs ds
  | .dcl ds => ∃ a kvs od, v = .ref a ∧ ¬ A a ∧ H a = some (.frz od (.dK kvs)) ∧ KvR c.K A H kvs ds
  | .brw ds => ∃ a xs, v = .ref a ∧ c.k ≠ some a ∧ c.S0 a ∧ H a = some (.lst xs) ∧ DaL c.K A H xs ds
  | .ins C fs => ∃ a dx vs, v = .ref a ∧ ¬ A a ∧ H a = some (.ins C dx vs) ∧ FsR c.K A H vs fs
  | .atom w => v = w
  | .kln => ∃ a, v = .ref a ∧ c.k = some a
  | .lsx => ∃ a xs, v = .ref a ∧ ¬ A a ∧ H a = some (.lst xs)

section
variable {c : Cy} {A B : Addr → Prop} {H H' : Hp} {v : V} {d : D}
theorem FsR.keep {K : PySem.W.Frag} {S : Addr → Prop} (k : Kept S H H') : ∀ {vs : List (Str × V)} {fs : List (Str × PyData)}, FsR K S H vs fs → FsR K S H' vs fs
  | [], [], _ => True.intro
  | (x, v) :: r, (y, d) :: s, ⟨e, h, t⟩ => ⟨e, h.keep k, FsR.keep k t⟩
  | [], _ :: _, h => h.elim
  | _ :: _, [], h => h.elim
theorem FsR.less {K : PySem.W.Frag} {S T : Addr → Prop} (w : ∀ a, T a → S a) : ∀ {vs : List (Str × V)} {fs : List (Str × PyData)}, FsR K S H vs fs → FsR K T H vs fs
  | [], [], _ => True.intro
  | (x, v) :: r, (y, d) :: s, ⟨e, h, t⟩ => ⟨e, h.less w, FsR.less w t⟩
  | [], _ :: _, h => h.elim
  | _ :: _, [], h => h.elim
theorem FsR.look {K : PySem.W.Frag} {S : Addr → Prop} {f : Str} {p : PyData} : ∀ {vs : List (Str × V)} {fs : List (Str × PyData)}, FsR K S H vs fs → fs.lookup f = some p → ∃ v, vs.lookup f = some v ∧ Da K S H v p
  | [], [], _, e => by simp at e
  | (x, v) :: r, (y, d) :: s, ⟨e, h, t⟩, q => by
    subst e
    rw [List.lookup_cons] at q ⊢
    by_cases z : (f == x) = true
    · rw [z] at q ⊢
      exact ⟨v, rfl, by cases q; exact h⟩
    · have z' : (f == x) = false := by simpa using z
      rw [z'] at q ⊢
      exact FsR.look t q
  | [], _ :: _, h, _ => h.elim
  | _ :: _, [], h, _ => h.elim
theorem KvR.keep {K : PySem.W.Frag} {S : Addr → Prop} (k : Kept S H H') : ∀ {vs : List (Key × V)} {fs : List (Key × PyData)}, KvR K S H vs fs → KvR K S H' vs fs
  | [], [], _ => True.intro
  | (x, v) :: r, (y, d) :: s, ⟨e, h, t⟩ => ⟨e, h.keep k, KvR.keep k t⟩
  | [], _ :: _, h => h.elim
  | _ :: _, [], h => h.elim
theorem KvR.less {K : PySem.W.Frag} {S T : Addr → Prop} (w : ∀ a, T a → S a) : ∀ {vs : List (Key × V)} {fs : List (Key × PyData)}, KvR K S H vs fs → KvR K T H vs fs
  | [], [], _ => True.intro
  | (x, v) :: r, (y, d) :: s, ⟨e, h, t⟩ => ⟨e, h.less w, KvR.less w t⟩
  | [], _ :: _, h => h.elim
  | _ :: _, [], h => h.elim
theorem InsL.keep {K : PySem.W.Frag} {S : Addr → Prop} {C : Addr} (k : Kept S H H') : ∀ {vs : List V} {gs : List (List (Str × PyData))}, InsL K S H C vs gs → InsL K S H' C vs gs
  | [], [], _ => True.intro
  | v :: r, g :: s, ⟨⟨b, dx, vs, e, n, q, f⟩, t⟩ => ⟨⟨b, dx, vs, e, n, k b _ n q, f.keep k⟩, InsL.keep k t⟩
  | [], _ :: _, h => h.elim
  | _ :: _, [], h => h.elim
theorem InsL.less {K : PySem.W.Frag} {S T : Addr → Prop} {C : Addr} (w : ∀ a, T a → S a) : ∀ {vs : List V} {gs : List (List (Str × PyData))}, InsL K S H C vs gs → InsL K T H C vs gs
  | [], [], _ => True.intro
  | v :: r, g :: s, ⟨⟨b, dx, vs, e, n, q, f⟩, t⟩ => ⟨⟨b, dx, vs, e, fun z => n (w b z), q, f.less w⟩, InsL.less w t⟩
  | [], _ :: _, h => h.elim
  | _ :: _, [], h => h.elim
theorem InsL.len {K : PySem.W.Frag} {S : Addr → Prop} {C : Addr} : ∀ {vs : List V} {gs : List (List (Str × PyData))}, InsL K S H C vs gs → vs.length = gs.length
  | [], [], _ => rfl
  | v :: r, g :: s, ⟨_, t⟩ => by rw [List.length_cons, List.length_cons, InsL.len t]
  | [], _ :: _, h => h.elim
  | _ :: _, [], h => h.elim
theorem OwAt.keep {K : PySem.W.Frag} {S : Addr → Prop} {a : Addr} {w : Ow} (k : Kept S H H') (ka : ∀ o, H a = some o → H' a = some o) (h : OwAt K S H a w) : OwAt K S H' a w := by
  cases w with
  | lst ds => obtain ⟨xs, h1, h2⟩ := h; exact ⟨xs, ka _ h1, h2.keep k⟩
  | dct ds => obtain ⟨xs, h1, h2⟩ := h; exact ⟨xs, ka _ h1, h2.keep k⟩
  | ins C fs => obtain ⟨dx, vs, h1, h2⟩ := h; exact ⟨dx, vs, ka _ h1, h2.keep k⟩
  | lsi C gs => obtain ⟨xs, h1, h2⟩ := h; exact ⟨xs, ka _ h1, h2.keep k⟩
theorem OwAt.less {K : PySem.W.Frag} {S T : Addr → Prop} {a : Addr} {w : Ow} (u : ∀ a, T a → S a) (h : OwAt K S H a w) : OwAt K T H a w := by
  cases w with
  | lst ds => obtain ⟨xs, h1, h2⟩ := h; exact ⟨xs, h1, h2.less u⟩
  | dct ds => obtain ⟨xs, h1, h2⟩ := h; exact ⟨xs, h1, h2.less u⟩
  | ins C fs => obtain ⟨dx, vs, h1, h2⟩ := h; exact ⟨dx, vs, h1, h2.less u⟩
  | lsi C gs => obtain ⟨xs, h1, h2⟩ := h; exact ⟨xs, h1, h2.less u⟩
theorem OwAt.al {K : PySem.W.Frag} {S : Addr → Prop} {a : Addr} {w : Ow} (h : OwAt K S H a w) : H a ≠ none := by
  cases w with
  | lst ds => obtain ⟨xs, h1, h2⟩ := h; rw [h1]; exact fun z => nomatch z
  | dct ds => obtain ⟨xs, h1, h2⟩ := h; rw [h1]; exact fun z => nomatch z
  | ins C fs => obtain ⟨dx, vs, h1, h2⟩ := h; rw [h1]; exact fun z => nomatch z
  | lsi C gs => obtain ⟨xs, h1, h2⟩ := h; rw [h1]; exact fun z => nomatch z
theorem Ek.refl : Ek c H H := Kept.refl
theorem Ek.trans {H1 H2 : Hp} (a : Ek c H H1) (b : Ek c H1 H2) : Ek c H H2 := Kept.trans a b
theorem Ek.kept (e : Ek c H H') (hA : ∀ a, c.k = some a → A a) : Kept A H H' := fun a o n h => e a o (fun z => n (hA a z)) h
theorem Ek.new {p : Addr} {o : HO} (h : H p = none) : Ek c H (upd H p o) := fun a u _ e => by rw [upd_ne (ne_of_none e h)]; exact e
theorem DX.keep (e : Ek c H H') (hA : ∀ a, c.k = some a → A a) (h : DX c A H v d) : DX c A H' v d := by
  have k := e.kept hA
  cases d with
  | py p => exact Da.keep k h
  | mine w => obtain ⟨a, q, n, m, t⟩ := h; exact ⟨a, q, n, m, t.keep k fun o r => e a o (fun z => n (c.hk a z)) r⟩
  | dct ds => obtain ⟨a, kvs, q, n, r, t⟩ := h; exact ⟨a, kvs, q, n, e a _ (fun z => n (hA a z)) r, t.keep k⟩
  | dcl ds => obtain ⟨a, kvs, od, q, n, r, t⟩ := h; exact ⟨a, kvs, od, q, n, e a _ (fun z => n (hA a z)) r, t.keep k⟩
  | brw ds => obtain ⟨a, xs, q, n, m, r, t⟩ := h; exact ⟨a, xs, q, n, m, e a _ n r, t.keep k⟩
  | ins C fs => obtain ⟨a, dx, vs, q, n, r, t⟩ := h; exact ⟨a, dx, vs, q, n, e a _ (fun z => n (hA a z)) r, t.keep k⟩
  | atom w => exact h
  | kln => exact h
  | lsx => obtain ⟨a, xs, q, n, r⟩ := h; exact ⟨a, xs, q, n, e a _ (fun z => n (hA a z)) r⟩
theorem DX.less (w : ∀ a, B a → A a) (nm : d.nm = true) (h : DX c A H v d) : DX c B H v d := by
  cases d with
  | py p => exact Da.less w h
  | mine ds => cases nm
  | dct ds => obtain ⟨a, kvs, q, n, r, t⟩ := h; exact ⟨a, kvs, q, fun z => n (w a z), r, t.less w⟩
  | dcl ds => obtain ⟨a, kvs, od, q, n, r, t⟩ := h; exact ⟨a, kvs, od, q, fun z => n (w a z), r, t.less w⟩
  | brw ds => obtain ⟨a, xs, q, n, m, r, t⟩ := h; exact ⟨a, xs, q, n, m, r, t.less w⟩
  | ins C fs => obtain ⟨a, dx, vs, q, n, r, t⟩ := h; exact ⟨a, dx, vs, q, fun z => n (w a z), r, t.less w⟩
  | atom w => exact h
  | kln => exact h
  | lsx => obtain ⟨a, xs, q, n, r⟩ := h; exact ⟨a, xs, q, fun z => n (w a z), r⟩
theorem Good.le {n m : Nat} (g : Good c n H) (h : n ≤ m) : Good c m H := ⟨g.al, fun a e => by
  obtain ⟨x, y, z, q, h1, h2, h3, h4, h5⟩ := g.kl a e
  exact ⟨x, y, z, q, h1, h2, h3, h4, by omega⟩⟩
theorem Good.new {n : Nat} {p : Addr} {o : HO} (g : Good c n H) (h : H p = none) : Good c n (upd H p o) := ⟨fun a s => by
    by_cases e : a = p
    · rw [e, upd_same]; exact fun z => nomatch z
    · rw [upd_ne e]; exact g.al a s, fun a s => by
    have := g.kl a s
    have e : a ≠ p := fun e => by obtain ⟨_, _, _, q, _⟩ := this; rw [e, h] at q; cases q
    rw [upd_ne e]; exact this⟩
end

/-! ## names -/
inductive Slo where
  | emp
  | val (d : D)
  | own (w : Ow)
structure En where
  sl : List Slo
  n : Nat
def ownA (σ : St) (e : List Slo) (a : Addr) : Prop := ∃ (i : Nat) (w : Ow), e[i]? = some (Slo.own w) ∧ σ[i]? = some (some (V.ref a))
def Av (c : Cy) (σ : St) (e : List Slo) (a : Addr) : Prop := c.S0 a ∨ ownA σ e a

structure Ok (c : Cy) (A : Addr → Prop) (H : Hp) (σ : St) (e : En) : Prop where
  len : σ.length = e.sl.length
  good : Good c e.n H
  sub : ∀ a, Av c σ e.sl a → A a
  al : ∀ a, A a → H a ≠ none
  val : ∀ (i : Nat) (d : D), e.sl[i]? = some (Slo.val d) → d.nm = true ∧ ∃ v : V, σ[i]? = some (some v) ∧ DX c A H v d
  own : ∀ (i : Nat) (w : Ow), e.sl[i]? = some (Slo.own w) → ∃ a : Addr, σ[i]? = some (some (V.ref a)) ∧ OwAt c.K A H a w ∧ ¬ c.S0 a
  sep : ∀ (i j : Nat) (ds es : Ow) (a : Addr), e.sl[i]? = some (Slo.own ds) → e.sl[j]? = some (Slo.own es) → σ[i]? = some (some (V.ref a)) → σ[j]? = some (some (V.ref a)) → i = j
section
variable {c : Cy} {A B : Addr → Prop} {H H' : Hp} {σ : St} {e : En}
theorem Ok.k (o : Ok c A H σ e) (a : Addr) (h : c.k = some a) : A a := o.sub a (.inl (c.hk a h))
theorem Ok.keep {n : Nat} (o : Ok c A H σ e) (k : Ek c H H') (g : Good c n H') : Ok c A H' σ ⟨e.sl, n⟩ :=
  ⟨o.len, g, o.sub, fun a z => (by
    by_cases w : c.k = some a
    · obtain ⟨_, _, _, q, _⟩ := g.kl a w
      rw [q]; exact fun z => nomatch z
    · cases q : H a with
      | none => exact absurd q (o.al a z)
      | some u => rw [k a u w q]; exact fun z => nomatch z), fun i d h => by
    obtain ⟨nm, v, h1, h2⟩ := o.val i d h
    exact ⟨nm, v, h1, h2.keep k o.k⟩, fun i ds h => by
    obtain ⟨a, h1, h3, h4⟩ := o.own i ds h
    exact ⟨a, h1, h3.keep (k.kept o.k) fun u r => k a u (fun z => h4 (c.hk a z)) r, h4⟩, o.sep⟩
theorem Ok.less (o : Ok c A H σ e) (w : ∀ a, B a → A a) (s : ∀ a, Av c σ e.sl a → B a) : Ok c B H σ e :=
  ⟨o.len, o.good, s, fun a z => o.al a (w a z), fun i d h => by
    obtain ⟨nm, v, h1, h2⟩ := o.val i d h
    exact ⟨nm, v, h1, h2.less w nm⟩, fun i ds h => by
    obtain ⟨a, h1, h3, h4⟩ := o.own i ds h
    exact ⟨a, h1, h3.less w, h4⟩, o.sep⟩
mutual
theorem Da.apart {K : PySem.W.Frag} {p : Addr} (n : H p = none) : ∀ {v : V} {d : PyData}, Da K A H v d → Da K (fun a => A a ∨ a = p) H v d
  | _, _, .non => .non
  | _, _, .bl b => .bl b
  | _, _, .int i => .int i
  | _, _, .str x => .str x
  | _, _, .lst m r t => .lst (fun z => Or.elim z m fun q => by subst q; rcases r with r | ⟨_, r⟩ <;> rw [n] at r <;> cases r) r (DaL.apart n t)
  | _, _, .tup m r t => .tup (fun z => Or.elim z m fun q => by subst q; rcases r with r | ⟨_, r⟩ <;> rw [n] at r <;> cases r) r (DaL.apart n t)
  | _, _, .lstK r t => .lstK r (DaL.apart n t)
  | _, _, .tupK r t => .tupK r (DaL.apart n t)
theorem DaL.apart {K : PySem.W.Frag} {p : Addr} (n : H p = none) : ∀ {vs : List V} {ds : List PyData}, DaL K A H vs ds → DaL K (fun a => A a ∨ a = p) H vs ds
  | _, _, .nil => .nil
  | _, _, .cons h t => .cons (Da.apart n h) (DaL.apart n t)
end
theorem FsR.apart {K : PySem.W.Frag} {p : Addr} (n : H p = none) : ∀ {vs : List (Str × V)} {fs : List (Str × PyData)}, FsR K A H vs fs → FsR K (fun a => A a ∨ a = p) H vs fs
  | [], [], _ => True.intro
  | (x, v) :: r, (y, d) :: s, ⟨e, h, t⟩ => ⟨e, h.apart n, FsR.apart n t⟩
  | [], _ :: _, h => h.elim
  | _ :: _, [], h => h.elim
theorem KvR.apart {K : PySem.W.Frag} {p : Addr} (n : H p = none) : ∀ {vs : List (Key × V)} {fs : List (Key × PyData)}, KvR K A H vs fs → KvR K (fun a => A a ∨ a = p) H vs fs
  | [], [], _ => True.intro
  | (x, v) :: r, (y, d) :: s, ⟨e, h, t⟩ => ⟨e, h.apart n, KvR.apart n t⟩
  | [], _ :: _, h => h.elim
  | _ :: _, [], h => h.elim
theorem InsL.apart {K : PySem.W.Frag} {p C : Addr} (n : H p = none) : ∀ {vs : List V} {gs : List (List (Str × PyData))}, InsL K A H C vs gs → InsL K (fun a => A a ∨ a = p) H C vs gs
  | [], [], _ => True.intro
  | v :: r, g :: s, ⟨⟨b, dx, vs, e, m, q, f⟩, t⟩ => ⟨⟨b, dx, vs, e, fun z => z.elim m fun w => (by rw [w, n] at q; cases q), q, f.apart n⟩, InsL.apart n t⟩
  | [], _ :: _, h => h.elim
  | _ :: _, [], h => h.elim
theorem OwAt.apart {K : PySem.W.Frag} {p a : Addr} {w : Ow} (n : H p = none) (h : OwAt K A H a w) : OwAt K (fun a => A a ∨ a = p) H a w := by
  cases w with
  | lst ds => obtain ⟨xs, h1, h2⟩ := h; exact ⟨xs, h1, h2.apart n⟩
  | dct ds => obtain ⟨xs, h1, h2⟩ := h; exact ⟨xs, h1, h2.apart n⟩
  | ins C fs => obtain ⟨dx, vs, h1, h2⟩ := h; exact ⟨dx, vs, h1, h2.apart n⟩
  | lsi C gs => obtain ⟨xs, h1, h2⟩ := h; exact ⟨xs, h1, h2.apart n⟩
theorem DX.apart {v : V} {d : D} {p : Addr} (n : H p = none) (h : DX c A H v d) : DX c (fun a => A a ∨ a = p) H v d := by
  cases d with
  | py q => exact Da.apart n h
  | mine w => obtain ⟨a, q, m, l, t⟩ := h; exact ⟨a, q, m, .inl l, t.apart n⟩
  | dct ds => obtain ⟨a, kvs, q, m, r, t⟩ := h; exact ⟨a, kvs, q, (fun z => Or.elim z m fun w => by rw [w, n] at r; cases r), r, t.apart n⟩
  | dcl ds => obtain ⟨a, kvs, od, q, m, r, t⟩ := h; exact ⟨a, kvs, od, q, (fun z => Or.elim z m fun w => by rw [w, n] at r; cases r), r, t.apart n⟩
  | brw ds => obtain ⟨a, xs, q, m, s, r, t⟩ := h; exact ⟨a, xs, q, m, s, r, t.apart n⟩
  | ins C fs => obtain ⟨a, dx, vs, q, m, r, t⟩ := h; exact ⟨a, dx, vs, q, (fun z => Or.elim z m fun w => by rw [w, n] at r; cases r), r, t.apart n⟩
  | atom w => exact h
  | kln => exact h
  | lsx => obtain ⟨a, xs, q, m, r⟩ := h; exact ⟨a, xs, q, (fun z => Or.elim z m fun w => by rw [w, n] at r; cases r), r⟩
end

/-! ## the judgements -/
structure Wp (c : Cy) (te : TE) (e : En) (Φ : D → Nat → Prop) : Prop where
  run : ∀ (σ : St) (A : Addr → Prop) (H : Hp), Ok c A H σ e → ∀ Q : VK, (∀ v H2 d n, Φ d n → Ek c H H2 → Good c n H2 → DX c A H2 v d → Q v H2) → te σ H Q
structure Wt (c : Cy) (tt : TT) (e : En) (Φ : Bool → Nat → Prop) : Prop where
  run : ∀ (σ : St) (A : Addr → Prop) (H : Hp), Ok c A H σ e → ∀ Q : Bool → Hp → Prop, (∀ b H2 n, Φ b n → Ek c H H2 → Good c n H2 → Q b H2) → tt σ H Q
def DXs (c : Cy) (A : Addr → Prop) (H : Hp) : List V → List D → Prop
  | [], [] => True
  | v :: vs, d :: ds => DX c A H v d ∧ DXs c A H vs ds
  | _, _ => False
structure Wa (c : Cy) (ta : TA) (e : En) (Φ : List D → Nat → Prop) : Prop where
  run : ∀ (σ : St) (A : Addr → Prop) (H : Hp), Ok c A H σ e → ∀ Q : List V → Hp → Prop, (∀ vs H2 ds n, Φ ds n → Ek c H H2 → Good c n H2 → DXs c A H2 vs ds → Q vs H2) → ta σ H Q
/-- what is known where an operation stands -/
structure At (c : Cy) (A : Addr → Prop) (n : Nat) (H : Hp) : Prop where
  good : Good c n H
  al : ∀ a, A a → H a ≠ none
  s : ∀ a, c.S0 a → A a
theorem At.k {c : Cy} {A : Addr → Prop} {n : Nat} {H : Hp} (x : At c A n H) (a : Addr) (h : c.k = some a) : A a := x.s a (c.hk a h)
structure Rw (c : Cy) (r : R2) (d1 d2 : D) (n : Nat) (Φ : D → Nat → Prop) : Prop where
  run : ∀ (A : Addr → Prop) (H : Hp) (v1 v2 : V), At c A n H → DX c A H v1 d1 → DX c A H v2 d2 → ∀ Q : VK, (∀ v H2 d m, Φ d m → Ek c H H2 → Good c m H2 → DX c A H2 v d → Q v H2) → r v1 v2 H Q
structure Uw (c : Cy) (r : V → Hp → VK → Prop) (d1 : D) (n : Nat) (Φ : D → Nat → Prop) : Prop where
  run : ∀ (A : Addr → Prop) (H : Hp) (v1 : V), At c A n H → DX c A H v1 d1 → ∀ Q : VK, (∀ v H2 d m, Φ d m → Ek c H H2 → Good c m H2 → DX c A H2 v d → Q v H2) → r v1 H Q
structure Cw (c : Cy) (r : List V → Hp → VK → Prop) (ds : List D) (n : Nat) (Φ : D → Nat → Prop) : Prop where
  run : ∀ (A : Addr → Prop) (H : Hp) (vs : List V), At c A n H → DXs c A H vs ds → ∀ Q : VK, (∀ v H2 d m, Φ d m → Ek c H H2 → Good c m H2 → DX c A H2 v d → Q v H2) → r vs H Q

section
variable {c : Cy} {e : En} {Φ : D → Nat → Prop} {ta tb te : TE}
theorem Ok.at_ {A : Addr → Prop} {H : Hp} {σ : St} (o : Ok c A H σ e) : At c A e.n H := ⟨o.good, o.al, fun a z => o.sub a (.inl z)⟩
theorem DXs.keep {A : Addr → Prop} {H H' : Hp} (k : Ek c H H') (hA : ∀ a, c.k = some a → A a) : ∀ {vs : List V} {ds : List D}, DXs c A H vs ds → DXs c A H' vs ds
  | [], [], _ => True.intro
  | v :: vs, d :: ds, ⟨h, t⟩ => ⟨h.keep k hA, DXs.keep k hA t⟩
  | [], _ :: _, h => h.elim
  | _ :: _, [], h => h.elim
theorem DXs.len {A : Addr → Prop} {H : Hp} : ∀ {vs : List V} {ds : List D}, DXs c A H vs ds → vs.length = ds.length
  | [], [], _ => rfl
  | v :: vs, d :: ds, ⟨h, t⟩ => by simp only [List.length_cons]; rw [DXs.len t]
  | [], _ :: _, h => h.elim
  | _ :: _, [], h => h.elim

theorem Wp.mono {Ψ : D → Nat → Prop} (h : Wp c te e Φ) (w : ∀ d n, Φ d n → Ψ d n) : Wp c te e Ψ := ⟨fun σ A H o Q q => h.run σ A H o Q fun v H2 d n p => q v H2 d n (w d n p)⟩
/-- a name's value -/
theorem wp_var {sl : List Slo} {nn : Nat} {i : Nat} {d : D} (h : sl[i]? = some (.val d)) (q : Φ d nn) : Wp c (tVar i) ⟨sl, nn⟩ Φ := ⟨fun σ A H o Q k => by
  obtain ⟨_, v, h1, h2⟩ := o.val i d h
  exact ⟨v, h1, k v H d nn q Ek.refl o.good h2⟩⟩
theorem wp_own {sl : List Slo} {nn : Nat} {i : Nat} {w : Ow} (h : sl[i]? = some (.own w)) (q : Φ (.mine w) nn) : Wp c (tVar i) ⟨sl, nn⟩ Φ := ⟨fun σ A H o Q k => by
  obtain ⟨a, h1, h3, h4⟩ := o.own i w h
  exact ⟨.ref a, h1, k _ H (.mine w) nn q Ek.refl o.good ⟨a, rfl, h4, o.sub a (.inr ⟨i, w, h, h1⟩), h3⟩⟩⟩
def pyV : V → PyData
  | .bl b => .bool b
  | .int i => .int i
  | .str x => .str x
  | _ => .none
def isSc : V → Bool
  | .non => true
  | .bl _ => true
  | .int _ => true
  | .str _ => true
  | _ => false
theorem Da.sc {K : PySem.W.Frag} {S : Addr → Prop} {H : Hp} {v : V} (h : isSc v = true) : Da K S H v (pyV v) := by
  cases v with
  | non => exact .non
  | bl b => exact .bl b
  | int i => exact .int i
  | str x => exact .str x
  | _ => cases h
theorem wp_c {sl : List Slo} {nn : Nat} {v : V} (h : isSc v = true) (q : Φ (.py (pyV v)) nn) : Wp c (tC v) ⟨sl, nn⟩ Φ := ⟨fun σ A H o Q k => k v H _ nn q Ek.refl o.good (Da.sc h)⟩
theorem wp_atom {sl : List Slo} {nn : Nat} {v : V} (q : Φ (.atom v) nn) : Wp c (tC v) ⟨sl, nn⟩ Φ := ⟨fun σ A H o Q k => k v H _ nn q Ek.refl o.good rfl⟩
theorem wp_op {sl : List Slo} {nn : Nat} {r : R2} (h : Wp c ta ⟨sl, nn⟩ fun d1 n1 => Wp c tb ⟨sl, n1⟩ fun d2 n2 => Rw c r d1 d2 n2 Φ) : Wp c (tOp r ta tb) ⟨sl, nn⟩ Φ := ⟨fun σ A H o Q k => by
  refine h.run σ A H o _ fun v1 H1 d1 n1 p1 e1 g1 x1 => ?_
  have o1 := o.keep e1 g1
  refine p1.run σ A H1 o1 _ fun v2 H2 d2 n2 p2 e2 g2 x2 => ?_
  have o2 := o1.keep e2 g2
  exact p2.run A H2 v1 v2 o2.at_ (x1.keep e2 o.k) x2 Q fun v H3 d m q e3 g3 x3 => k v H3 d m q ((e1.trans e2).trans e3) g3 x3⟩
theorem wp_un {sl : List Slo} {nn : Nat} {r : V → Hp → VK → Prop} (h : Wp c ta ⟨sl, nn⟩ fun d1 n1 => Uw c r d1 n1 Φ) : Wp c (tUn r ta) ⟨sl, nn⟩ Φ := ⟨fun σ A H o Q k => by
  refine h.run σ A H o _ fun v1 H1 d1 n1 p1 e1 g1 x1 => ?_
  have o1 := o.keep e1 g1
  exact p1.run A H1 v1 o1.at_ x1 Q fun v H3 d m q e3 g3 x3 => k v H3 d m q (e1.trans e3) g3 x3⟩
theorem wa_nil {sl : List Slo} {nn : Nat} {Φ : List D → Nat → Prop} (q : Φ [] nn) : Wa c tNil ⟨sl, nn⟩ Φ := ⟨fun σ A H o Q k => k [] H [] nn q Ek.refl o.good True.intro⟩
theorem wa_cons {sl : List Slo} {nn : Nat} {Φ : List D → Nat → Prop} {t : TA} (h : Wp c ta ⟨sl, nn⟩ fun d n => Wa c t ⟨sl, n⟩ fun ds m => Φ (d :: ds) m) : Wa c (tCons ta t) ⟨sl, nn⟩ Φ := ⟨fun σ A H o Q k => by
  refine h.run σ A H o _ fun v1 H1 d1 n1 p1 e1 g1 x1 => ?_
  have o1 := o.keep e1 g1
  refine p1.run σ A H1 o1 _ fun vs H2 ds m p2 e2 g2 x2 => ?_
  exact k (v1 :: vs) H2 (d1 :: ds) m p2 (e1.trans e2) g2 ⟨x1.keep e2 o.k, x2⟩⟩
theorem wp_cb {sl : List Slo} {nn : Nat} {r : List V → Hp → VK → Prop} {t : TA} (h : Wa c t ⟨sl, nn⟩ fun ds n => Cw c r ds n Φ) : Wp c (tCB r t) ⟨sl, nn⟩ Φ := ⟨fun σ A H o Q k => by
  refine h.run σ A H o _ fun vs H1 ds n1 p1 e1 g1 x1 => ?_
  have o1 := o.keep e1 g1
  exact p1.run A H1 vs o1.at_ x1 Q fun v H3 d m q e3 g3 x3 => k v H3 d m q (e1.trans e3) g3 x3⟩
end
end Wx

/-! ### part Wb -/
set_option Elab.async false
set_option linter.all false
set_option maxRecDepth 100000
set_option maxHeartbeats 1000000
set_option autoImplicit false
/-! list + list, read lists (locked ones and constants too). -/
namespace PySem.AutoSeq1
set_option maxRecDepth 8000 in
theorem add_any_lists (l : Addr) (items : Array Value) (n : Nat) (b : Addr) (items2 : Array Value) (n2 : Nat) (s1 s2 : Array (Option Value)) (hc0 : items.size + items2.size ≤ sizeLine) :
    Meets (Builtin.«list.__add__» ⟨[.ref l, .ref b], []⟩) (fun _ R s => s.heap.get? l = some { cls := .type "list", dict := none, data := .seq items n, slots := s1 } ∧ s.heap.get? b = some { cls := .type "list", dict := none, data := .seq items2 n2, slots := s2 } ∧ R (.ok (.ret (Value.ref s.heap.objs.size))) { s with heap := s.heap.push { cls := Value.type "list", data := Data.seq (items ++ items2) }, toks := s.toks }) :=
  .of_wp fun prog w A R s h => by obtain ⟨hp, g, d, tk, os⟩ := s; obtain ⟨hl, hb, h⟩ := h; have f1 := idx_int; have f2 := sub_tuple_tuple; have f3 := sub_list_list; have f4 := sub_tuple_list; have f5 := sub_list_tuple; wp_walk using wpAny_loadPart' hl, wpAny_loadPart' hb; exact ⟨_, rfl, h⟩
end PySem.AutoSeq1
namespace Wx
open PySem L2 PyProof.Rows
def rCatL (K : PySem.W.Frag) : R2 := fun x y H Q => ∃ l b xs zs, x = .ref l ∧ y = .ref b ∧ SqL K H l xs ∧ SqL K H b zs ∧ xs.length + zs.length ≤ sizeLine ∧ ∀ p, H p = none → Q (.ref p) (upd H p (.lst (xs ++ zs)))
theorem op_catL {X : Cx} : OpR X (binaryOp .Add) (rCatL X.K) := by
  intro pins s σ H x y v u Q I rx ry h
  obtain ⟨l, b, xs, zs, rfl, rfl, hH, hB, hz, q⟩ := h
  cases rx
  cases ry
  obtain ⟨its, r, ⟨⟨oc, od, oda, osl⟩, n, e, o1, o2, o3⟩, _⟩ := I.list hH
  obtain ⟨its2, r2, ⟨⟨oc', od', oda', osl'⟩, n2, e2, o1', o2', o3'⟩, _⟩ := I.list hB
  dsimp only at o1 o2 o3 o1' o2' o3'
  subst o1 o2 o3 o1' o2' o3'
  have hl := r.length
  have hl2 := r2.length
  have ea : its.toArray ++ its2.toArray = (its ++ its2).toArray := by simp
  refine PySem.concat_meets ⟨_, e, rfl⟩ ⟨_, e2, rfl⟩ PySem.noFill_list_add PySem.seq_list_add PySem.F.slot_list_add PySem.F.entry_list_add (PySem.F.args_list_add_2 _ _) (PySem.AutoSeq1.add_any_lists l its.toArray n b its2.toArray n2 osl osl' (by rw [List.size_toArray, List.size_toArray]; omega)) ⟨e, e2, ?_⟩
  rw [ea]
  exact ⟨.ref _, _, I.lnew (t' := s.toks) (r.append r2) (by rw [List.length_append]; omega), rfl, q _ I.fresh⟩
end Wx

/-! ### part Wy -/
set_option Elab.async false
set_option linter.all false
set_option maxRecDepth 100000
set_option maxHeartbeats 1000000
set_option autoImplicit false
/-! The rules of the calculus: tests, operators, sequences. -/
namespace Wx
open PySem L2

/-! ## operators, any of several kinds -/
def rInTD (K : PySem.W.Frag) : R2 := fun x y H Q => ∃ d ds, Dp K H x d ∧ Dp K H y (.tuple ds) ∧ SeqAt.shaped d = true ∧ SeqAt.shaped (.tuple ds) = true ∧ Q (.bl (ds.any fun z => PyData.eqv z d)) H
def rNiTD (K : PySem.W.Frag) : R2 := fun x y H Q => ∃ d ds, Dp K H x d ∧ Dp K H y (.tuple ds) ∧ SeqAt.shaped d = true ∧ SeqAt.shaped (.tuple ds) = true ∧ Q (.bl (!ds.any fun z => PyData.eqv z d)) H
section
variable {X : Cx}
theorem roomTD {A : Around} {d : PyData} {n : Nat} (h : SeqAt.shaped d = true) (hu : A.units + 65 < cLine) : A.units + 1 + min n d.depth < cLine := by
  have h1 := SeqAt.depth_of_shaped h
  have h2 : min n d.depth ≤ d.depth := Nat.min_le_right _ _
  omega
theorem op_inTD (hu : X.A.units + 65 < cLine) : OpR X (compareOp .In) (rInTD X.K) := by
  intro pins s σ H x y v u Q I rx ry ⟨d, ds, hd, he, sd, se, q⟩
  obtain ⟨as, r1⟩ := Dp.reads I d x v hd rx
  obtain ⟨bs, r2⟩ := Dp.reads I (.tuple ds) y u he ry
  exact SeqAt.in_tuple_reads r2 r1 (SeqAt.canLay_of_shaped se) (SeqAt.canLay_of_shaped sd) (roomTD sd hu) ⟨.bl _, H, I, rfl, q⟩
theorem op_niTD (hu : X.A.units + 65 < cLine) : OpR X (compareOp .NotIn) (rNiTD X.K) := by
  intro pins s σ H x y v u Q I rx ry ⟨d, ds, hd, he, sd, se, q⟩
  obtain ⟨as, r1⟩ := Dp.reads I d x v hd rx
  obtain ⟨bs, r2⟩ := Dp.reads I (.tuple ds) y u he ry
  exact SeqAt.notIn_tuple_reads r2 r1 (SeqAt.canLay_of_shaped se) (SeqAt.canLay_of_shaped sd) (roomTD sd hu) ⟨.bl _, H, I, rfl, q⟩
end
def rIN (K : PySem.W.Frag) : R2 := fun x y H Q => rInD K x y H Q ∨ rInTD K x y H Q
def rNI (K : PySem.W.Frag) : R2 := fun x y H Q => rNotInD K x y H Q ∨ rNiTD K x y H Q
def rAddS : R2 := fun x y H Q => ∃ i j, x = .str i ∧ y = .str j ∧ i.length + j.length ≤ sizeLine ∧ Q (.str (i ++ j)) H
def rADD (K : PySem.W.Frag) : R2 := fun x y H Q => rI0 (fun i j => .int (i + j)) x y H Q ∨ rCatA K x y H Q ∨ rCat x y H Q ∨ rAddS x y H Q ∨ rCatL K x y H Q
def rMUL : R2 := fun x y H Q => rI CMulW (fun i j => .int (i * j)) x y H Q ∨ rRep x y H Q
def rSL (K : PySem.W.Frag) : V → Option Int → Option Int → Hp → VK → Prop := fun x lo hi H Q => rSlA K x lo hi H Q ∨ rSlL K x lo hi H Q ∨ rSlS x lo hi H Q
def rPW : R2 := rI (fun i j => 0 ≤ j ∧ 0 ≤ i ∧ i < 2 ^ 600 ∧ j ≤ 40) fun i j => .int (i ^ j.toNat)
section
variable {X : Cx}
theorem opIN (hu : X.A.units + 65 < cLine) : OpR X (compareOp .In) (rIN X.K) := (op_inD hu).or (op_inTD hu)
theorem opNI (hu : X.A.units + 65 < cLine) : OpR X (compareOp .NotIn) (rNI X.K) := (op_notInD hu).or (op_niTD hu)
theorem opADD : OpR X (binaryOp .Add) (rADD X.K) := op_add.or (op_catA.or (op_cat.or (op_add_str.or op_catL)))
theorem opMUL : OpR X (binaryOp .Mult) rMUL := op_mulW.or op_rep
theorem slSL : SlR X (rSL X.K) := sl_tupA.or (sl_list.or sl_str)
end

section
variable {c : Cy} {e : En} {Φ : D → Nat → Prop} {ta tb te tc : TE} {t u : TT} {n : Nat} {d1 d2 : D}
/-! ## tests -/
def Bd (d : D) (k : Bool → Prop) : Prop := match d with
  | .py (.bool b) => k b
  | _ => False
/-- truth of data -/
def Td (d : D) (k : Bool → Prop) : Prop := match d with
  | .py .none => k false
  | .py (.bool b) => k b
  | .py (.int i) => k (i != 0)
  | .py (.str x) => x.length ≤ sizeLine ∧ k ((x.length : Int) != 0)
  | .py (.list ds) => k (!ds.isEmpty)
  | .py (.tuple ds) => k (!ds.isEmpty)
  | .mine (.lst ds) => k (!ds.isEmpty)
  | .brw ds => k (!ds.isEmpty)
  | _ => False
theorem wt_test {sl : List Slo} {nn : Nat} {Ψ : Bool → Nat → Prop} (h : Wp c te ⟨sl, nn⟩ fun d n => Bd d fun b => Ψ b n) : Wt c (tTest te) ⟨sl, nn⟩ Ψ := ⟨fun σ A H o Q k => by
  refine h.run σ A H o _ fun v H1 d n p e1 g1 x => ?_
  match d, p, x with
  | .py (.bool b), p, x => exact ⟨b, Da.bl_eq x, k b H1 n p e1 g1⟩⟩
theorem wt_b {sl : List Slo} {nn : Nat} {Ψ : Bool → Nat → Prop} (h : Wp c te ⟨sl, nn⟩ fun d n => Bd d fun b => Ψ b n) : Wt c (tB te) ⟨sl, nn⟩ Ψ := ⟨(wt_test h).run⟩
theorem empty_of {K : PySem.W.Frag} {S : Addr → Prop} {H : Hp} {xs : List V} {ds : List PyData} (h : DaL K S H xs ds) : xs.isEmpty = ds.isEmpty := by cases h <;> rfl
theorem tru_of {A : Addr → Prop} {H : Hp} {v : V} {d : D} {k : Bool → Prop} (x : DX c A H v d) (p : Td d k) : ∃ b, TruV c.K v H b ∧ k b := by
  match d, p, x with
  | .py .none, p, x => cases Da.non_eq x; exact ⟨false, rfl, p⟩
  | .py (.bool b), p, x => cases Da.bl_eq x; exact ⟨b, rfl, p⟩
  | .py (.int i), p, x => cases Da.int_eq x; exact ⟨_, rfl, p⟩
  | .py (.str z), p, x => cases Da.str_eq x; exact ⟨_, ⟨p.1, rfl⟩, p.2⟩
  | .py (.list ds), p, x =>
    obtain ⟨a, xs, rfl, h, t⟩ := Da.list_at x
    exact ⟨_, .inl ⟨xs, h, rfl⟩, by rw [empty_of t]; exact p⟩
  | .py (.tuple ds), p, x =>
    obtain ⟨a, xs, rfl, h, t⟩ := Da.tuple_at x
    exact ⟨_, .inr (.inl ⟨xs, h, rfl⟩), by rw [empty_of t]; exact p⟩
  | .mine (.lst ds), p, x =>
    obtain ⟨a, rfl, _, _, xs, h, t⟩ := x
    exact ⟨_, .inl ⟨xs, SqL.of h, rfl⟩, by rw [empty_of t]; exact p⟩
  | .brw ds, p, x =>
    obtain ⟨a, xs, rfl, _, _, h, t⟩ := x
    exact ⟨_, .inl ⟨xs, SqL.of h, rfl⟩, by rw [empty_of t]; exact p⟩
theorem wt_tru {sl : List Slo} {nn : Nat} {Ψ : Bool → Nat → Prop} {K : PySem.W.Frag} (hK : K = c.K) (h : Wp c te ⟨sl, nn⟩ fun d n => Td d fun b => Ψ b n) : Wt c (fun σ H Q => te σ H fun x H' => ∃ k, TruV K x H' k ∧ Q k H') ⟨sl, nn⟩ Ψ := ⟨fun σ A H o Q k => by
  subst hK
  refine h.run σ A H o _ fun v H1 d n p e1 g1 x => ?_
  obtain ⟨b, h1, h2⟩ := tru_of x p
  exact ⟨b, h1, k b H1 n h2 e1 g1⟩⟩
theorem wt_not {sl : List Slo} {nn : Nat} {Ψ : Bool → Nat → Prop} (h : Wt c t ⟨sl, nn⟩ fun b n => Ψ (!b) n) : Wt c (tNot t) ⟨sl, nn⟩ Ψ := ⟨fun σ A H o Q k => h.run σ A H o _ fun b H1 n p e1 g1 => k (!b) H1 n p e1 g1⟩
theorem wt_and {sl : List Slo} {nn : Nat} {Ψ : Bool → Nat → Prop} (h : Wt c t ⟨sl, nn⟩ fun b n => (b = true → Wt c u ⟨sl, n⟩ Ψ) ∧ (b = false → Ψ false n)) : Wt c (tAnd t u) ⟨sl, nn⟩ Ψ := ⟨fun σ A H o Q k => by
  refine h.run σ A H o _ fun b H1 n p e1 g1 => ?_
  cases b with
  | true => exact iteT ((p.1 rfl).run σ A H1 (o.keep e1 g1) Q fun b2 H2 m q e2 g2 => k b2 H2 m q (e1.trans e2) g2)
  | false => exact iteF (k false H1 n (p.2 rfl) e1 g1)⟩
theorem wt_or {sl : List Slo} {nn : Nat} {Ψ : Bool → Nat → Prop} (h : Wt c t ⟨sl, nn⟩ fun b n => (b = false → Wt c u ⟨sl, n⟩ Ψ) ∧ (b = true → Ψ true n)) : Wt c (tOr t u) ⟨sl, nn⟩ Ψ := ⟨fun σ A H o Q k => by
  refine h.run σ A H o _ fun b H1 n p e1 g1 => ?_
  cases b with
  | false => exact iteF ((p.1 rfl).run σ A H1 (o.keep e1 g1) Q fun b2 H2 m q e2 g2 => k b2 H2 m q (e1.trans e2) g2)
  | true => exact iteT (k true H1 n (p.2 rfl) e1 g1)⟩
theorem wp_if {sl : List Slo} {nn : Nat} (h : Wt c t ⟨sl, nn⟩ fun b n => (b = true → Wp c ta ⟨sl, n⟩ Φ) ∧ (b = false → Wp c tb ⟨sl, n⟩ Φ)) : Wp c (tIf t ta tb) ⟨sl, nn⟩ Φ := ⟨fun σ A H o Q k => by
  refine h.run σ A H o _ fun b H1 n p e1 g1 => ?_
  cases b with
  | true => exact iteT ((p.1 rfl).run σ A H1 (o.keep e1 g1) Q fun v H2 d m q e2 g2 => k v H2 d m q (e1.trans e2) g2)
  | false => exact iteF ((p.2 rfl).run σ A H1 (o.keep e1 g1) Q fun v H2 d m q e2 g2 => k v H2 d m q (e1.trans e2) g2)⟩
theorem wp_notV {sl : List Slo} {nn : Nat} (h : Wp c ta ⟨sl, nn⟩ fun d n => Bd d fun b => Φ (.py (.bool (!b))) n) : Wp c (tNotV ta) ⟨sl, nn⟩ Φ := ⟨fun σ A H o Q k => by
  refine h.run σ A H o _ fun v H1 d n p e1 g1 x => ?_
  match d, p, x with
  | .py (.bool b), p, x => exact ⟨b, Da.bl_eq x, k _ H1 _ n p e1 g1 (.bl (!b))⟩⟩
theorem wp_andV {sl : List Slo} {nn : Nat} (h : Wp c ta ⟨sl, nn⟩ fun d n => Bd d fun b => (b = true → Wp c tb ⟨sl, n⟩ Φ) ∧ (b = false → Φ (.py (.bool false)) n)) : Wp c (tAndV ta tb) ⟨sl, nn⟩ Φ := ⟨fun σ A H o Q k => by
  refine h.run σ A H o _ fun v H1 d n p e1 g1 x => ?_
  match d, p, x with
  | .py (.bool true), p, x => exact ⟨true, Da.bl_eq x, iteT ((p.1 rfl).run σ A H1 (o.keep e1 g1) Q fun v H2 d m q e2 g2 => k v H2 d m q (e1.trans e2) g2)⟩
  | .py (.bool false), p, x => exact ⟨false, Da.bl_eq x, iteF (k _ H1 _ n (p.2 rfl) e1 g1 (.bl false))⟩⟩
theorem wp_orV {sl : List Slo} {nn : Nat} (h : Wp c ta ⟨sl, nn⟩ fun d n => Bd d fun b => (b = false → Wp c tb ⟨sl, n⟩ Φ) ∧ (b = true → Φ (.py (.bool true)) n)) : Wp c (tOrV ta tb) ⟨sl, nn⟩ Φ := ⟨fun σ A H o Q k => by
  refine h.run σ A H o _ fun v H1 d n p e1 g1 x => ?_
  match d, p, x with
  | .py (.bool false), p, x => exact ⟨false, Da.bl_eq x, iteF ((p.1 rfl).run σ A H1 (o.keep e1 g1) Q fun v H2 d m q e2 g2 => k v H2 d m q (e1.trans e2) g2)⟩
  | .py (.bool true), p, x => exact ⟨true, Da.bl_eq x, iteT (k _ H1 _ n (p.2 rfl) e1 g1 (.bl true))⟩⟩
theorem wp_chain {sl : List Slo} {nn : Nat} {r r' : R2} (h : Wp c ta ⟨sl, nn⟩ fun d1 n1 => Wp c tb ⟨sl, n1⟩ fun d2 n2 => Rw c r d1 d2 n2 fun d n => Bd d fun b => (b = true → Wp c tc ⟨sl, n⟩ fun d3 n3 => Rw c r' d2 d3 n3 Φ) ∧ (b = false → Φ (.py (.bool false)) n)) : Wp c (tChain r r' ta tb tc) ⟨sl, nn⟩ Φ := ⟨fun σ A H o Q k => by
  refine h.run σ A H o _ fun v1 H1 d1 n1 p1 e1 g1 x1 => ?_
  have o1 := o.keep e1 g1
  refine p1.run σ A H1 o1 _ fun v2 H2 d2 n2 p2 e2 g2 x2 => ?_
  have o2 := o1.keep e2 g2
  refine p2.run A H2 v1 v2 o2.at_ (x1.keep e2 o.k) x2 _ fun v H3 d m p3 e3 g3 x3 => ?_
  have o3 := o2.keep e3 g3
  match d, p3, x3 with
  | .py (.bool true), p3, x3 =>
    refine ⟨true, Da.bl_eq x3, iteT ((p3.1 rfl).run σ A H3 o3 _ fun v3 H4 d3 n3 p4 e4 g4 x4 => ?_)⟩
    have o4 := o3.keep e4 g4
    exact p4.run A H4 v2 v3 o4.at_ ((x2.keep e3 o.k).keep e4 o.k) x4 Q fun v H5 d m q e5 g5 x5 => k v H5 d m q ((((e1.trans e2).trans e3).trans e4).trans e5) g5 x5
  | .py (.bool false), p3, x3 => exact ⟨false, Da.bl_eq x3, iteF (k _ H3 _ m (p3.2 rfl) ((e1.trans e2).trans e3) g3 (.bl false))⟩⟩

/-! ## operations on whole numbers -/
def Id2 (d1 d2 : D) (k : Int → Int → Prop) : Prop := match d1, d2 with
  | .py (.int i), .py (.int j) => k i j
  | _, _ => False
def Id1 (d1 : D) (k : Int → Prop) : Prop := match d1 with
  | .py (.int i) => k i
  | _ => False
theorem id2 {A : Addr → Prop} {H : Hp} {v1 v2 : V} {k : Int → Int → Prop} (p : Id2 d1 d2 k) (x1 : DX c A H v1 d1) (x2 : DX c A H v2 d2) : ∃ i j, v1 = .int i ∧ v2 = .int j ∧ k i j := by
  match d1, d2, p, x1, x2 with
  | .py (.int i), .py (.int j), p, x1, x2 => exact ⟨i, j, Da.int_eq x1, Da.int_eq x2, p⟩
theorem id1 {A : Addr → Prop} {H : Hp} {v1 : V} {k : Int → Prop} (p : Id1 d1 k) (x1 : DX c A H v1 d1) : ∃ i, v1 = .int i ∧ k i := by
  match d1, p, x1 with
  | .py (.int i), p, x1 => exact ⟨i, Da.int_eq x1, p⟩
theorem rw_i0 {g : Int → Int → V} (hg : ∀ i j, isSc (g i j) = true := by intro _ _; rfl) (h : Id2 d1 d2 fun i j => Φ (.py (pyV (g i j))) n) : Rw c (rI0 g) d1 d2 n Φ := ⟨fun A H v1 v2 a x1 x2 Q k => by
  obtain ⟨i, j, rfl, rfl, q⟩ := id2 h x1 x2
  exact ⟨i, j, rfl, rfl, k _ H _ n q Ek.refl a.good (Da.sc (hg i j))⟩⟩
theorem rw_i {C : Int → Int → Prop} {g : Int → Int → V} (hg : ∀ i j, isSc (g i j) = true := by intro _ _; rfl) (h : Id2 d1 d2 fun i j => C i j ∧ Φ (.py (pyV (g i j))) n) : Rw c (rI C g) d1 d2 n Φ := ⟨fun A H v1 v2 a x1 x2 Q k => by
  obtain ⟨i, j, rfl, rfl, hc, q⟩ := id2 h x1 x2
  exact ⟨i, j, rfl, rfl, hc, k _ H _ n q Ek.refl a.good (Da.sc (hg i j))⟩⟩
theorem uw_u {g : Int → V} (hg : ∀ i, isSc (g i) = true := by intro _; rfl) (h : Id1 d1 fun i => Φ (.py (pyV (g i))) n) : Uw c (rU g) d1 n Φ := ⟨fun A H v1 a x1 Q k => by
  obtain ⟨i, rfl, q⟩ := id1 h x1
  exact ⟨i, rfl, k _ H _ n q Ek.refl a.good (Da.sc (hg i))⟩⟩
theorem rw_orl {r r' : R2} (h : Rw c r d1 d2 n Φ) : Rw c (fun x y H Q => r x y H Q ∨ r' x y H Q) d1 d2 n Φ := ⟨fun A H v1 v2 a x1 x2 Q k => .inl (h.run A H v1 v2 a x1 x2 Q k)⟩
theorem rw_orr {r r' : R2} (h : Rw c r' d1 d2 n Φ) : Rw c (fun x y H Q => r x y H Q ∨ r' x y H Q) d1 d2 n Φ := ⟨fun A H v1 v2 a x1 x2 Q k => .inr (h.run A H v1 v2 a x1 x2 Q k)⟩
theorem rw_addI {K : PySem.W.Frag} (h : Id2 d1 d2 fun i j => Φ (.py (.int (i + j))) n) : Rw c (rADD K) d1 d2 n Φ := ⟨fun A H v1 v2 a x1 x2 Q k => .inl ((rw_i0 (c := c) (g := fun i j => V.int (i + j)) (n := n) (Φ := Φ) (h := h)).run A H v1 v2 a x1 x2 Q k)⟩
theorem rw_mulI (h : Id2 d1 d2 fun i j => CMulW i j ∧ Φ (.py (.int (i * j))) n) : Rw c rMUL d1 d2 n Φ := ⟨fun A H v1 v2 a x1 x2 Q k => .inl ((rw_i (c := c) (C := CMulW) (g := fun i j => V.int (i * j)) (n := n) (Φ := Φ) (h := h)).run A H v1 v2 a x1 x2 Q k)⟩

/-! ## sequences -/
/-- a tuple's data -/
def Tp (d : D) (k : List PyData → Prop) : Prop := match d with
  | .py (.tuple ds) => k ds
  | _ => False
/-- a list's data -/
def Ls (d : D) (k : List PyData → Prop) : Prop := match d with
  | .py (.list ds) => k ds
  | .mine (.lst ds) => k ds
  | .brw ds => k ds
  | _ => False
/-- either's -/
def Sq (d : D) (k : List PyData → Prop) : Prop := match d with
  | .py (.tuple ds) => k ds
  | .py (.list ds) => k ds
  | .mine (.lst ds) => k ds
  | .brw ds => k ds
  | _ => False
theorem tp_of {A : Addr → Prop} {H : Hp} {v : V} {d : D} {k : List PyData → Prop} (p : Tp d k) (x : DX c A H v d) : ∃ a xs ds, v = .ref a ∧ d = .py (.tuple ds) ∧ SqT c.K H a xs ∧ DaL c.K A H xs ds ∧ k ds := by
  match d, p, x with
  | .py (.tuple ds), p, x =>
    obtain ⟨a, xs, rfl, h, t⟩ := Da.tuple_at x
    exact ⟨a, xs, ds, rfl, rfl, h, t, p⟩
theorem ls_of {A : Addr → Prop} {H : Hp} {v : V} {d : D} {k : List PyData → Prop} (p : Ls d k) (x : DX c A H v d) : ∃ a xs ds, v = .ref a ∧ SqL c.K H a xs ∧ DaL c.K A H xs ds ∧ k ds := by
  match d, p, x with
  | .py (.list ds), p, x =>
    obtain ⟨a, xs, rfl, h, t⟩ := Da.list_at x
    exact ⟨a, xs, ds, rfl, h, t, p⟩
  | .mine (.lst ds), p, x =>
    obtain ⟨a, rfl, _, _, xs, h, t⟩ := x
    exact ⟨a, xs, ds, rfl, SqL.of h, t, p⟩
  | .brw ds, p, x =>
    obtain ⟨a, xs, rfl, _, _, h, t⟩ := x
    exact ⟨a, xs, ds, rfl, SqL.of h, t, p⟩
theorem sq_of {A : Addr → Prop} {H : Hp} {v : V} {d : D} {k : List PyData → Prop} (p : Sq d k) (x : DX c A H v d) : ∃ a xs ds, v = .ref a ∧ (SqL c.K H a xs ∨ SqT c.K H a xs) ∧ DaL c.K A H xs ds ∧ k ds := by
  match d, p, x with
  | .py (.tuple ds), p, x =>
    obtain ⟨a, xs, rfl, h, t⟩ := Da.tuple_at x
    exact ⟨a, xs, ds, rfl, .inr h, t, p⟩
  | .py (.list ds), p, x =>
    obtain ⟨a, xs, rfl, h, t⟩ := Da.list_at x
    exact ⟨a, xs, ds, rfl, .inl h, t, p⟩
  | .mine (.lst ds), p, x =>
    obtain ⟨a, rfl, _, _, xs, h, t⟩ := x
    exact ⟨a, xs, ds, rfl, .inl (SqL.of h), t, p⟩
  | .brw ds, p, x =>
    obtain ⟨a, xs, rfl, _, _, h, t⟩ := x
    exact ⟨a, xs, ds, rfl, .inl (SqL.of h), t, p⟩
/-- all of them data -/
def Pys : List D → (List PyData → Prop) → Prop
  | [], k => k []
  | .py p :: r, k => Pys r fun ps => k (p :: ps)
  | _ :: _, _ => False
theorem pys_of {A : Addr → Prop} {H : Hp} : ∀ {vs : List V} {ds : List D} {k : List PyData → Prop}, Pys ds k → DXs c A H vs ds → ∃ ps, DaL c.K A H vs ps ∧ k ps
  | [], [], k, p, _ => ⟨[], .nil, p⟩
  | v :: vs, .py q :: ds, k, p, ⟨h, t⟩ => by
    obtain ⟨ps, h1, h2⟩ := pys_of (k := fun ps => k (q :: ps)) p t
    exact ⟨q :: ps, .cons h h1, h2⟩
  | v :: vs, .mine _ :: _, k, p, _ => p.elim
  | v :: vs, .dct _ :: _, k, p, _ => p.elim
  | v :: vs, .dcl _ :: _, k, p, _ => p.elim
  | v :: vs, .brw _ :: _, k, p, _ => p.elim
  | v :: vs, .ins _ _ :: _, k, p, _ => p.elim
  | v :: vs, .atom _ :: _, k, p, _ => p.elim
  | v :: vs, .kln :: _, k, p, _ => p.elim
  | v :: vs, .lsx :: _, k, p, _ => p.elim
  | [], _ :: _, k, _, h => h.elim
  | _ :: _, [], k, _, h => h.elim
/-- a new object p: data that is laid there -/
theorem At.fresh {A : Addr → Prop} {H : Hp} {p : Addr} (a : At c A n H) (h : H p = none) : ¬ A p := fun z => a.al p z h
theorem DaL.new {K : PySem.W.Frag} {A : Addr → Prop} {H : Hp} {p : Addr} {o : HO} {xs : List V} {ds : List PyData} (h : DaL K A H xs ds) (n : H p = none) : DaL K A (upd H p o) xs ds := h.keep fun a u _ e => by rw [upd_ne (ne_of_none e n)]; exact e
theorem Ok.fresh {A : Addr → Prop} {H : Hp} {σ : St} {p : Addr} (o : Ok c A H σ e) (h : H p = none) : ¬ A p := fun z => o.al p z h
theorem wp_tup {sl : List Slo} {nn : Nat} {ta : TA} (h : Wa c ta ⟨sl, nn⟩ fun ds n => Pys ds fun ps => ps.length ≤ sizeLine ∧ Φ (.py (.tuple ps)) n) : Wp c (tTup ta) ⟨sl, nn⟩ Φ := ⟨fun σ A H o Q k => by
  refine h.run σ A H o _ fun vs H1 ds n p e1 g1 x => ?_
  obtain ⟨ps, h1, hz, q⟩ := pys_of p x
  have o1 := o.keep e1 g1
  exact ⟨by rw [h1.len]; exact hz, fun r hr => k _ _ _ n q (e1.trans (Ek.new hr)) (g1.new hr) (.tup (o1.fresh hr) (.inl upd_same) (h1.new hr))⟩⟩
theorem fresh_of {H H1 : Hp} {p : Addr} (k : Ek c H H1) (g : Good c n H1) (h : H1 p = none) : H p = none := by
  cases q : H p with
  | none => rfl
  | some u =>
    by_cases z : c.k = some p
    · obtain ⟨_, _, _, q2, _⟩ := g.kl p z
      rw [h] at q2; cases q2
    · rw [k p u z q] at h; cases h
/-- a new list, of one's own -/
structure Wn (c : Cy) (te : TE) (e : En) (Φ : Ow → Nat → Prop) : Prop where
  run : ∀ (σ : St) (A : Addr → Prop) (H : Hp), Ok c A H σ e → ∀ Q : VK, (∀ p H2 w n, Φ w n → Ek c H H2 → Good c n H2 → H p = none → OwAt c.K (fun a => A a ∨ a = p) H2 p w → Q (.ref p) H2) → te σ H Q
def outO : Ow → D
  | .lst ds => .py (.list ds)
  | .dct ds => .dct ds
  | .ins C fs => .ins C fs
  | .lsi _ _ => .lsx
theorem dx_ow {A : Addr → Prop} {H : Hp} {p : Addr} {w : Ow} (n : ¬ A p) (t : OwAt c.K (fun a => A a ∨ a = p) H p w) : DX c A H (.ref p) (outO w) := by
  cases w with
  | lst ds => obtain ⟨xs, h, t⟩ := t; exact .lst n (.inl h) (t.less fun a z => .inl z)
  | dct ds => obtain ⟨xs, h, t⟩ := t; exact ⟨p, xs, rfl, n, h, t.less fun a z => .inl z⟩
  | ins C fs => obtain ⟨dx, vs, h, t⟩ := t; exact ⟨p, dx, vs, rfl, n, h, t.less fun a z => .inl z⟩
  | lsi C gs => obtain ⟨xs, h, t⟩ := t; exact ⟨p, xs, rfl, n, h⟩
theorem wp_new {sl : List Slo} {nn : Nat} (h : Wn c te ⟨sl, nn⟩ fun w n => Φ (outO w) n) : Wp c te ⟨sl, nn⟩ Φ := ⟨fun σ A H o Q k => h.run σ A H o Q fun p H2 w n q e2 g2 hp t => k (.ref p) H2 _ n q e2 g2 (dx_ow (o.fresh hp) t)⟩
/-- by its operation: a new object -/
structure Rn (c : Cy) (r : R2) (d1 d2 : D) (n : Nat) (Φ : Ow → Nat → Prop) : Prop where
  run : ∀ (A : Addr → Prop) (H : Hp) (v1 v2 : V), At c A n H → DX c A H v1 d1 → DX c A H v2 d2 → ∀ Q : VK, (∀ p H2 w m, Φ w m → Ek c H H2 → Good c m H2 → H p = none → OwAt c.K (fun a => A a ∨ a = p) H2 p w → Q (.ref p) H2) → r v1 v2 H Q
structure Cn (c : Cy) (r : List V → Hp → VK → Prop) (ds : List D) (n : Nat) (Φ : Ow → Nat → Prop) : Prop where
  run : ∀ (A : Addr → Prop) (H : Hp) (vs : List V), At c A n H → DXs c A H vs ds → ∀ Q : VK, (∀ p H2 w m, Φ w m → Ek c H H2 → Good c m H2 → H p = none → OwAt c.K (fun a => A a ∨ a = p) H2 p w → Q (.ref p) H2) → r vs H Q
theorem rw_new {r : R2} (h : Rn c r d1 d2 n fun w n => Φ (outO w) n) : Rw c r d1 d2 n Φ := ⟨fun A H v1 v2 a x1 x2 Q k => h.run A H v1 v2 a x1 x2 Q fun p H2 w n q e2 g2 hp t => k (.ref p) H2 _ n q e2 g2 (dx_ow (a.fresh hp) t)⟩
theorem cw_new {r : List V → Hp → VK → Prop} {ds : List D} (h : Cn c r ds n fun w n => Φ (outO w) n) : Cw c r ds n Φ := ⟨fun A H vs a x Q k => h.run A H vs a x Q fun p H2 w n q e2 g2 hp t => k (.ref p) H2 _ n q e2 g2 (dx_ow (a.fresh hp) t)⟩
theorem wn_op {sl : List Slo} {nn : Nat} {Ψ : Ow → Nat → Prop} {r : R2} (h : Wp c ta ⟨sl, nn⟩ fun d1 n1 => Wp c tb ⟨sl, n1⟩ fun d2 n2 => Rn c r d1 d2 n2 Ψ) : Wn c (tOp r ta tb) ⟨sl, nn⟩ Ψ := ⟨fun σ A H o Q k => by
  refine h.run σ A H o _ fun v1 H1 d1 n1 p1 e1 g1 x1 => ?_
  have o1 := o.keep e1 g1
  refine p1.run σ A H1 o1 _ fun v2 H2 d2 n2 p2 e2 g2 x2 => ?_
  have o2 := o1.keep e2 g2
  exact p2.run A H2 v1 v2 o2.at_ (x1.keep e2 o.k) x2 Q fun p H3 w m q e3 g3 hp t => k p H3 w m q ((e1.trans e2).trans e3) g3 (fresh_of (e1.trans e2) g2 hp) t⟩
theorem wn_cb {sl : List Slo} {nn : Nat} {Ψ : Ow → Nat → Prop} {r : List V → Hp → VK → Prop} {ta : TA} (h : Wa c ta ⟨sl, nn⟩ fun ds n => Cn c r ds n Ψ) : Wn c (tCB r ta) ⟨sl, nn⟩ Ψ := ⟨fun σ A H o Q k => by
  refine h.run σ A H o _ fun vs H1 ds n1 p1 e1 g1 x1 => ?_
  have o1 := o.keep e1 g1
  exact p1.run A H1 vs o1.at_ x1 Q fun p H3 w m q e3 g3 hp t => k p H3 w m q (e1.trans e3) g3 (fresh_of e1 g1 hp) t⟩
/-- what is laid at p -/
theorem lay {K : PySem.W.Frag} {A : Addr → Prop} {H : Hp} {p : Addr} {o : HO} {xs : List V} {ds : List PyData} (h : DaL K A H xs ds) (n : H p = none) : DaL K (fun a => A a ∨ a = p) (upd H p o) xs ds := (h.apart n).keep fun a u _ e => by rw [upd_ne (ne_of_none e n)]; exact e
theorem wn_lst {sl : List Slo} {nn : Nat} {Ψ : Ow → Nat → Prop} {ta : TA} (h : Wa c ta ⟨sl, nn⟩ fun ds n => Pys ds fun ps => ps.length ≤ sizeLine ∧ Ψ (.lst ps) n) : Wn c (tLst ta) ⟨sl, nn⟩ Ψ := ⟨fun σ A H o Q k => by
  refine h.run σ A H o _ fun vs H1 ds n p e1 g1 x => ?_
  obtain ⟨ps, h1, hz, q⟩ := pys_of p x
  exact ⟨by rw [h1.len]; exact hz, fun r hr => k r _ _ n q (e1.trans (Ek.new hr)) (g1.new hr) (fresh_of e1 g1 hr) ⟨vs, upd_same, lay h1 hr⟩⟩⟩
end
end Wx

/-! ### part Wz -/
set_option Elab.async false
set_option linter.all false
set_option maxRecDepth 100000
set_option maxHeartbeats 1000000
set_option autoImplicit false
/-! The rules of the calculus: items, parts, comparisons, sums of sequences, built-in functions. -/
namespace Wx
open PySem L2
section
variable {c : Cy} {e : En} {Φ : D → Nat → Prop} {Ψ : Ow → Nat → Prop} {ta tb te tc : TE} {n : Nat} {d1 d2 : D} {K : PySem.W.Frag}
/-! ## an item -/
theorem DaL.at_ {S : Addr → Prop} {H : Hp} {xs : List V} {ds : List PyData} {i : Int} {d : PyData} (h : DaL K S H xs ds) (q : atI ds i = some d) : ∃ v, atI xs i = some v ∧ Da K S H v d := by
  unfold atI at q ⊢
  rw [h.len]
  cases z : ixN ds.length i with
  | none => rw [z] at q; cases q
  | some j =>
    rw [z] at q
    exact DaL.get h q
def Ixd : D → D → (PyData → Prop) → Prop
  | .py (.tuple ds), .py (.int i), k => ∃ d, atI ds i = some d ∧ k d
  | .py (.list ds), .py (.int i), k => ∃ d, atI ds i = some d ∧ k d
  | .mine (.lst ds), .py (.int i), k => ∃ d, atI ds i = some d ∧ k d
  | .brw ds, .py (.int i), k => ∃ d, atI ds i = some d ∧ k d
  | .py (.str z), .py (.int i), k => z.length ≤ sizeLine ∧ ∃ ch, atI z.cps.toList i = some ch ∧ k (.str ⟨#[ch]⟩)
  | _, _, _ => False
theorem rw_ix (hK : K = c.K) (h : Ixd d1 d2 fun d => Φ (.py d) n) : Rw c (rIx K) d1 d2 n Φ := ⟨fun A H v1 v2 a x1 x2 Q k => by
  subst hK
  match d1, d2, h, x1, x2 with
  | .py (.tuple ds), .py (.int i), ⟨d, h1, q⟩, x1, x2 =>
    cases Da.int_eq x2
    obtain ⟨b, xs, rfl, hs, t⟩ := Da.tuple_at x1
    obtain ⟨v, h2, y⟩ := t.at_ h1
    exact .inr (.inl ⟨b, xs, i, v, rfl, rfl, hs, h2, k v H _ n q Ek.refl a.good y⟩)
  | .py (.list ds), .py (.int i), ⟨d, h1, q⟩, x1, x2 =>
    cases Da.int_eq x2
    obtain ⟨b, xs, rfl, hs, t⟩ := Da.list_at x1
    obtain ⟨v, h2, y⟩ := t.at_ h1
    exact .inl ⟨b, xs, i, v, rfl, rfl, hs, h2, k v H _ n q Ek.refl a.good y⟩
  | .mine (.lst ds), .py (.int i), ⟨d, h1, q⟩, x1, x2 =>
    cases Da.int_eq x2
    obtain ⟨b, rfl, _, _, xs, hs, t⟩ := x1
    obtain ⟨v, h2, y⟩ := t.at_ h1
    exact .inl ⟨b, xs, i, v, rfl, rfl, SqL.of hs, h2, k v H _ n q Ek.refl a.good y⟩
  | .brw ds, .py (.int i), ⟨d, h1, q⟩, x1, x2 =>
    cases Da.int_eq x2
    obtain ⟨b, xs, rfl, _, _, hs, t⟩ := x1
    obtain ⟨v, h2, y⟩ := t.at_ h1
    exact .inl ⟨b, xs, i, v, rfl, rfl, SqL.of hs, h2, k v H _ n q Ek.refl a.good y⟩
  | .py (.str z), .py (.int i), ⟨hz, ch, h1, q⟩, x1, x2 =>
    cases Da.int_eq x2
    cases Da.str_eq x1
    exact .inr (.inr ⟨z, i, ch, rfl, rfl, hz, h1, k _ H _ n q Ek.refl a.good (.str _)⟩)⟩
/-! ## a part -/
structure Wo (c : Cy) (to : TO) (e : En) (Φ : Option Int → Nat → Prop) : Prop where
  run : ∀ (σ : St) (A : Addr → Prop) (H : Hp), Ok c A H σ e → ∀ Q : Option Int → Hp → Prop, (∀ o H2 n, Φ o n → Ek c H H2 → Good c n H2 → Q o H2) → to σ H Q
theorem wo_no {sl : List Slo} {nn : Nat} {Θ : Option Int → Nat → Prop} (q : Θ none nn) : Wo c tNoPart ⟨sl, nn⟩ Θ := ⟨fun σ A H o Q k => k none H nn q Ek.refl o.good⟩
theorem wo_some {sl : List Slo} {nn : Nat} {Θ : Option Int → Nat → Prop} (h : Wp c te ⟨sl, nn⟩ fun d n => Id1 d fun i => Θ (some i) n) : Wo c (tPart te) ⟨sl, nn⟩ Θ := ⟨fun σ A H o Q k => by
  refine h.run σ A H o _ fun v H1 d n p e1 g1 x => ?_
  obtain ⟨i, rfl, q⟩ := id1 p x
  exact ⟨i, rfl, k (some i) H1 n q e1 g1⟩⟩
def cutD {α : Type} (xs : List α) (lo hi : Option Int) : List α := (xs.drop (HT.sIx xs.length 0 lo)).take (HT.sIx xs.length xs.length hi - HT.sIx xs.length 0 lo)
theorem DaL.cut {S : Addr → Prop} {H : Hp} {xs : List V} {ds : List PyData} (h : DaL K S H xs ds) (lo hi : Option Int) : DaL K S H (cutV xs lo hi) (cutD ds lo hi) := by
  unfold cutV cutD
  rw [h.len]
  exact (h.drop _).take _
theorem cut_all {α : Type} {xs : List α} {lo hi : Option Int} (h : HT.sIx xs.length 0 lo = 0 ∧ HT.sIx xs.length xs.length hi = xs.length) : cutD xs lo hi = xs := by
  unfold cutD
  rw [h.1, h.2]
  simp
def Sld (d : D) (lo hi : Option Int) (k : PyData → Prop) : Prop := match d with
  | .py (.tuple ds) => k (.tuple (cutD ds lo hi))
  | .py (.list ds) => k (.list (cutD ds lo hi))
  | .mine (.lst ds) => k (.list (cutD ds lo hi))
  | .brw ds => k (.list (cutD ds lo hi))
  | .py (.str z) => z.length ≤ sizeLine ∧ k (.str (cutS z lo hi))
  | _ => False
theorem wp_sl {sl : List Slo} {nn : Nat} {tl th : TO} (hK : K = c.K) (h : Wp c te ⟨sl, nn⟩ fun d n => Wo c tl ⟨sl, n⟩ fun lo n1 => Wo c th ⟨sl, n1⟩ fun hi n2 => Sld d lo hi fun p => Φ (.py p) n2) : Wp c (tSl (rSL K) te tl th) ⟨sl, nn⟩ Φ := ⟨fun σ A H o Q k => by
  subst hK
  refine h.run σ A H o _ fun v H1 d n p e1 g1 x => ?_
  have o1 := o.keep e1 g1
  refine p.run σ A H1 o1 _ fun lo H2 n1 p e2 g2 => ?_
  have o2 := o1.keep e2 g2
  refine p.run σ A H2 o2 _ fun hi H3 n2 p e3 g3 => ?_
  have o3 := o2.keep e3 g3
  have x := (x.keep e2 o.k).keep e3 o.k
  have es : Ek c H H3 := (e1.trans e2).trans e3
  have nl : ∀ {b : Addr} {xs : List V} {ds : List PyData}, v = .ref b → SqL c.K H3 b xs → DaL c.K A H3 xs ds → Φ (.py (.list (cutD ds lo hi))) n2 → rSL c.K v lo hi H3 Q := fun {b xs ds} ev hs t q =>
    .inr (.inl ⟨b, xs, ev, hs, fun r hr => k (.ref r) _ _ n2 q (es.trans (Ek.new hr)) (g3.new hr) (.lst (o3.fresh hr) (.inl upd_same) ((t.cut lo hi).new hr))⟩)
  match d, p, x with
  | .py (.tuple ds), p, x =>
    obtain ⟨b, xs, ev, hs, t⟩ := Da.tuple_at x
    refine .inl ⟨b, xs, ev, hs, fun hw => ?_, fun _ r hr => k _ _ _ n2 p (es.trans (Ek.new hr)) (g3.new hr) (.tup (o3.fresh hr) (.inl upd_same) ((t.cut lo hi).new hr))⟩
    rw [t.len] at hw
    have p' : Φ (.py (.tuple (cutD ds lo hi))) n2 := p
    have q : Φ (.py (.tuple ds)) n2 := by rw [cut_all hw] at p'; exact p'
    exact k _ H3 _ n2 q es g3 (by rw [← ev]; exact x)
  | .py (.list ds), p, x =>
    obtain ⟨b, xs, ev, hs, t⟩ := Da.list_at x
    exact nl ev hs t p
  | .mine (.lst ds), p, x =>
    obtain ⟨b, ev, _, _, xs, hs, t⟩ := x
    exact nl ev (SqL.of hs) t p
  | .brw ds, p, x =>
    obtain ⟨b, xs, ev, _, _, hs, t⟩ := x
    exact nl ev (SqL.of hs) t p
  | .py (.str z), ⟨hz, p⟩, x =>
    cases Da.str_eq x
    exact .inr (.inr ⟨z, rfl, hz, k _ H3 _ n2 p es g3 (.str _)⟩)⟩
/-! ## equality, membership -/
def Pd (d : D) (k : PyData → Prop) : Prop := match d with
  | .py p => k p
  | .mine (.lst ds) => k (.list ds)
  | .brw ds => k (.list ds)
  | _ => False
theorem pd_of {A : Addr → Prop} {H : Hp} {v : V} {d : D} {k : PyData → Prop} (p : Pd d k) (x : DX c A H v d) : ∃ q, Dp c.K H v q ∧ k q := by
  match d, p, x with
  | .py q, p, x => exact ⟨q, Da.dp x, p⟩
  | .mine (.lst ds), p, x =>
    obtain ⟨a, rfl, _, _, xs, h, t⟩ := x
    exact ⟨_, .lst (SqL.of h) t.dp, p⟩
  | .brw ds, p, x =>
    obtain ⟨a, xs, rfl, _, _, h, t⟩ := x
    exact ⟨_, .lst (SqL.of h) t.dp, p⟩
theorem rw_eq (hK : K = c.K) (h : Pd d1 fun p => Pd d2 fun q => SeqAt.shaped p = true ∧ SeqAt.shaped q = true ∧ Φ (.py (.bool (PyData.eqv p q))) n) : Rw c (rEqD K) d1 d2 n Φ := ⟨fun A H v1 v2 a x1 x2 Q k => by
  subst hK
  obtain ⟨p, y1, h⟩ := pd_of h x1
  obtain ⟨q, y2, s1, s2, h⟩ := pd_of h x2
  exact ⟨p, q, y1, y2, s1, s2, k _ H _ n h Ek.refl a.good (.bl _)⟩⟩
theorem rw_ne (hK : K = c.K) (h : Pd d1 fun p => Pd d2 fun q => SeqAt.shaped p = true ∧ SeqAt.shaped q = true ∧ Φ (.py (.bool (!PyData.eqv p q))) n) : Rw c (rNeD K) d1 d2 n Φ := ⟨fun A H v1 v2 a x1 x2 Q k => by
  subst hK
  obtain ⟨p, y1, h⟩ := pd_of h x1
  obtain ⟨q, y2, s1, s2, h⟩ := pd_of h x2
  exact ⟨p, q, y1, y2, s1, s2, k _ H _ n h Ek.refl a.good (.bl _)⟩⟩
def Mem (p : PyData) (ds : List PyData) : Bool := ds.any fun z => PyData.eqv z p
def SqP (q : PyData) (k : List PyData → Prop) : Prop := match q with
  | .tuple ds => k ds
  | .list ds => k ds
  | _ => False
theorem rw_in (hK : K = c.K) (h : Pd d1 fun p => Pd d2 fun q => SqP q fun ds => SeqAt.shaped p = true ∧ SeqAt.shaped q = true ∧ Φ (.py (.bool (Mem p ds))) n) : Rw c (rIN K) d1 d2 n Φ := ⟨fun A H v1 v2 a x1 x2 Q k => by
  subst hK
  obtain ⟨p, y1, h⟩ := pd_of h x1
  obtain ⟨q, y2, h⟩ := pd_of h x2
  match q, y2, h with
  | .tuple ds, y2, ⟨s1, s2, h⟩ => exact .inr ⟨p, ds, y1, y2, s1, s2, k _ H _ n h Ek.refl a.good (.bl _)⟩
  | .list ds, y2, ⟨s1, s2, h⟩ => exact .inl ⟨p, ds, y1, y2, s1, s2, k _ H _ n h Ek.refl a.good (.bl _)⟩⟩
theorem rw_ni (hK : K = c.K) (h : Pd d1 fun p => Pd d2 fun q => SqP q fun ds => SeqAt.shaped p = true ∧ SeqAt.shaped q = true ∧ Φ (.py (.bool (!Mem p ds))) n) : Rw c (rNI K) d1 d2 n Φ := ⟨fun A H v1 v2 a x1 x2 Q k => by
  subst hK
  obtain ⟨p, y1, h⟩ := pd_of h x1
  obtain ⟨q, y2, h⟩ := pd_of h x2
  match q, y2, h with
  | .tuple ds, y2, ⟨s1, s2, h⟩ => exact .inr ⟨p, ds, y1, y2, s1, s2, k _ H _ n h Ek.refl a.good (.bl _)⟩
  | .list ds, y2, ⟨s1, s2, h⟩ => exact .inl ⟨p, ds, y1, y2, s1, s2, k _ H _ n h Ek.refl a.good (.bl _)⟩⟩
/-! ## sums of sequences -/
theorem rw_addT (hK : K = c.K) (h : Tp d1 fun ds => Tp d2 fun es => ds.length + es.length ≤ sizeLine ∧ Φ (.py (.tuple (ds ++ es))) n) : Rw c (rADD K) d1 d2 n Φ := ⟨fun A H v1 v2 a x1 x2 Q k => by
  subst hK
  obtain ⟨p1, xs, ds, rfl, e1, hs1, t1, h⟩ := tp_of h x1
  obtain ⟨p2, ys, es, rfl, e2, hs2, t2, hz, q⟩ := tp_of h x2
  subst e1 e2
  refine .inr (.inl ⟨p1, p2, xs, ys, rfl, rfl, hs1, hs2, by rw [t1.len, t2.len]; exact hz, fun z => ?_, fun _ z => ?_, fun _ _ r hr => ?_⟩)
  · have e1 : ds = [] := t1.nil_iff.mp z
    subst e1
    exact k _ H _ n q Ek.refl a.good x2
  · have e2 : es = [] := t2.nil_iff.mp z
    subst e2
    rw [List.append_nil] at q
    exact k _ H _ n q Ek.refl a.good x1
  · exact k _ _ _ n q (Ek.new hr) (a.good.new hr) (.tup (a.fresh hr) (.inl upd_same) ((t1.append t2).new hr))⟩
/-- a list that stands as it is -/
def Lw (d : D) (k : List PyData → Prop) : Prop := match d with
  | .py (.list ds) => k ds
  | .mine (.lst ds) => k ds
  | .brw ds => k ds
  | _ => False
theorem rw_addS (h : match d1, d2 with | .py (.str x), .py (.str y) => x.length + y.length ≤ sizeLine ∧ Φ (.py (.str (x ++ y))) n | _, _ => False) : Rw c (rADD K) d1 d2 n Φ := ⟨fun A H v1 v2 a x1 x2 Q k => by
  match d1, d2, h, x1, x2 with
  | .py (.str x), .py (.str y), ⟨hz, q⟩, x1, x2 =>
    cases Da.str_eq x1
    cases Da.str_eq x2
    exact .inr (.inr (.inr (.inl ⟨x, y, rfl, rfl, hz, k _ H _ n q Ek.refl a.good (.str _)⟩)))⟩
theorem rw_catL (hK : K = c.K) {ds es : List PyData} (h : ds.length + es.length ≤ sizeLine ∧ Φ (.py (.list (ds ++ es))) n) : Rw c (rADD K) (.py (.list ds)) (.py (.list es)) n Φ := ⟨fun A H v1 v2 a x1 x2 Q k => by
  subst hK
  obtain ⟨b1, xs, rfl, h1, t1⟩ := Da.list_at x1
  obtain ⟨b2, ys, rfl, h2, t2⟩ := Da.list_at x2
  refine .inr (.inr (.inr (.inr ⟨b1, b2, xs, ys, rfl, rfl, h1, h2, by rw [t1.len, t2.len]; exact h.1, fun r hr => ?_⟩)))
  exact k (.ref r) _ _ n h.2 (Ek.new hr) (a.good.new hr) (.lst (a.fresh hr) (.inl upd_same) ((t1.append t2).new hr))⟩
theorem rw_catL2 (hK : K = c.K) {ds es : List PyData} (h : ds.length + es.length ≤ sizeLine ∧ Φ (.py (.list (ds ++ es))) n) : Rw c (rADD K) (.py (.list ds)) (outO (.lst es)) n Φ := rw_catL hK h
theorem rw_catL3 (hK : K = c.K) {ds es : List PyData} (h : ds.length + es.length ≤ sizeLine ∧ Φ (.py (.list (ds ++ es))) n) : Rw c (rADD K) (outO (.lst ds)) (outO (.lst es)) n Φ := rw_catL hK h
theorem rw_catL4 (hK : K = c.K) {ds es : List PyData} (h : ds.length + es.length ≤ sizeLine ∧ Φ (.py (.list (ds ++ es))) n) : Rw c (rADD K) (outO (.lst ds)) (.py (.list es)) n Φ := rw_catL hK h
/-! ## built-in functions -/
def Lend (d : D) (k : Int → Prop) : Prop := match d with
  | .py (.tuple ds) => k ds.length
  | .py (.list ds) => k ds.length
  | .mine (.lst ds) => k ds.length
  | .brw ds => k ds.length
  | .py (.str x) => x.length ≤ sizeLine ∧ k x.length
  | _ => False
def rLEN (K : PySem.W.Frag) : List V → Hp → VK → Prop := fun xs H Q => ∃ x n, xs = [x] ∧ LenV K x H n ∧ Q (.int n) H
theorem callLEN {X : Cx} : CallR X (.builtin "len") (rLEN X.K) := call_len
def One (ds : List D) (k : D → Prop) : Prop := match ds with
  | [d] => k d
  | _ => False
def Two (ds : List D) (k : D → D → Prop) : Prop := match ds with
  | [d, u] => k d u
  | _ => False
theorem one_of {A : Addr → Prop} {H : Hp} {vs : List V} {ds : List D} {k : D → Prop} (p : One ds k) (x : DXs c A H vs ds) : ∃ v d, vs = [v] ∧ DX c A H v d ∧ k d := by
  match vs, ds, p, x with
  | [v], [d], p, ⟨h, _⟩ => exact ⟨v, d, rfl, h, p⟩
  | [], [d], p, h => exact h.elim
  | _ :: _ :: _, [d], p, ⟨_, h⟩ => exact h.elim
theorem two_of {A : Addr → Prop} {H : Hp} {vs : List V} {ds : List D} {k : D → D → Prop} (p : Two ds k) (x : DXs c A H vs ds) : ∃ v w d u, vs = [v, w] ∧ DX c A H v d ∧ DX c A H w u ∧ k d u := by
  match vs, ds, p, x with
  | [v, w], [d, u], p, ⟨h1, h2, _⟩ => exact ⟨v, w, d, u, rfl, h1, h2, p⟩
  | [v], [d, u], p, ⟨_, h⟩ => exact h.elim
  | [], [d, u], p, h => exact h.elim
  | _ :: _ :: _ :: _, [d, u], p, ⟨_, _, h⟩ => exact h.elim
theorem cw_len {ds : List D} (hK : K = c.K) (h : One ds fun d => Lend d fun i => Φ (.py (.int i)) n) : Cw c (rLEN K) ds n Φ := ⟨fun A H vs a x Q k => by
  subst hK
  obtain ⟨v, d, rfl, x, p⟩ := one_of h x
  match d, p, x with
  | .py (.tuple ds), p, x =>
    obtain ⟨b, xs, rfl, hs, t⟩ := Da.tuple_at x
    exact ⟨_, ds.length, rfl, .inr ⟨xs, hs, t.len.symm⟩, k _ H _ n p Ek.refl a.good (.int _)⟩
  | .py (.list ds), p, x =>
    obtain ⟨b, xs, rfl, hs, t⟩ := Da.list_at x
    exact ⟨_, ds.length, rfl, .inl ⟨xs, hs, t.len.symm⟩, k _ H _ n p Ek.refl a.good (.int _)⟩
  | .mine (.lst ds), p, x =>
    obtain ⟨b, rfl, _, _, xs, hs, t⟩ := x
    exact ⟨_, ds.length, rfl, .inl ⟨xs, SqL.of hs, t.len.symm⟩, k _ H _ n p Ek.refl a.good (.int _)⟩
  | .brw ds, p, x =>
    obtain ⟨b, xs, rfl, _, _, hs, t⟩ := x
    exact ⟨_, ds.length, rfl, .inl ⟨xs, SqL.of hs, t.len.symm⟩, k _ H _ n p Ek.refl a.good (.int _)⟩
  | .py (.str z), ⟨hz, p⟩, x =>
    cases Da.str_eq x
    exact ⟨_, z.length, rfl, ⟨hz, rfl⟩, k _ H _ n p Ek.refl a.good (.int _)⟩⟩
def rMAX2 : List V → Hp → VK → Prop := fun xs H Q => ∃ i j, xs = [.int i, .int j] ∧ Q (.int (if j > i then j else i)) H
def rMIN2 : List V → Hp → VK → Prop := fun xs H Q => ∃ i j, xs = [.int i, .int j] ∧ Q (.int (if j < i then j else i)) H
theorem callMAX2 {X : Cx} (hc : X.calm = true) : CallR X (.builtin "max") rMAX2 := call_max2 hc
theorem callMIN2 {X : Cx} (hc : X.calm = true) : CallR X (.builtin "min") rMIN2 := call_min2 hc
theorem cw_max2 {ds : List D} (h : Two ds fun d u => Id2 d u fun i j => Φ (.py (.int (if j > i then j else i))) n) : Cw c rMAX2 ds n Φ := ⟨fun A H vs a x Q k => by
  obtain ⟨v, w, d, u, rfl, x1, x2, p⟩ := two_of h x
  obtain ⟨i, j, rfl, rfl, q⟩ := id2 p x1 x2
  exact ⟨i, j, rfl, k _ H _ n q Ek.refl a.good (.int _)⟩⟩
theorem cw_min2 {ds : List D} (h : Two ds fun d u => Id2 d u fun i j => Φ (.py (.int (if j < i then j else i))) n) : Cw c rMIN2 ds n Φ := ⟨fun A H vs a x Q k => by
  obtain ⟨v, w, d, u, rfl, x1, x2, p⟩ := two_of h x
  obtain ⟨i, j, rfl, rfl, q⟩ := id2 p x1 x2
  exact ⟨i, j, rfl, k _ H _ n q Ek.refl a.good (.int _)⟩⟩
def rINT1 : List V → Hp → VK → Prop := fun xs H Q => (∃ i, xs = [.int i] ∧ Q (.int i) H) ∨ ∃ k, xs = [.bl k] ∧ Q (.int (if k then 1 else 0)) H
def Bint (d : D) (k : Int → Prop) : Prop := match d with
  | .py (.int i) => k i
  | .py (.bool b) => k (if b then 1 else 0)
  | _ => False
theorem cw_int1 {ds : List D} (h : One ds fun d => Bint d fun i => Φ (.py (.int i)) n) : Cw c rINT1 ds n Φ := ⟨fun A H vs a x Q k => by
  obtain ⟨v, d, rfl, x, p⟩ := one_of h x
  match d, p, x with
  | .py (.int i), p, x => cases Da.int_eq x; exact .inl ⟨i, rfl, k _ H _ n p Ek.refl a.good (.int _)⟩
  | .py (.bool b), p, x => cases Da.bl_eq x; exact .inr ⟨b, rfl, k _ H _ n p Ek.refl a.good (.int _)⟩⟩
/-- list(xs): a new one -/
def rLISTOF (K : PySem.W.Frag) : List V → Hp → VK → Prop := fun xs H Q => ∃ p ys, xs = [.ref p] ∧ (SqL K H p ys ∨ SqT K H p ys) ∧ ∀ l, H l = none → Q (.ref l) (upd H l (.lst ys))
theorem cn_list {ds : List D} (hK : K = c.K) (h : One ds fun d => Sq d fun ps => Ψ (.lst ps) n) : Cn c (rLISTOF K) ds n Ψ := ⟨fun A H vs a x Q k => by
  subst hK
  obtain ⟨v, d, rfl, x, p⟩ := one_of h x
  obtain ⟨b, xs, ps, rfl, hs, t, q⟩ := sq_of p x
  exact ⟨b, xs, rfl, hs, fun l hl => k l _ _ n q (Ek.new hl) (a.good.new hl) hl ⟨xs, upd_same, lay t hl⟩⟩⟩
def rTUPOF (K : PySem.W.Frag) : List V → Hp → VK → Prop := fun xs H Q => ∃ p ys, xs = [.ref p] ∧ ((SqL K H p ys ∧ ∀ l, H l = none → Q (.ref l) (upd H l (.tup ys))) ∨ (SqT K H p ys ∧ Q (.ref p) H))
theorem cw_tuple {ds : List D} (hK : K = c.K) (h : One ds fun d => Sq d fun ps => Φ (.py (.tuple ps)) n) : Cw c (rTUPOF K) ds n Φ := ⟨fun A H vs a x Q k => by
  subst hK
  obtain ⟨v, d, rfl, x, p⟩ := one_of h x
  have nt : ∀ {b : Addr} {xs : List V} {ps : List PyData}, SqL c.K H b xs → DaL c.K A H xs ps → Φ (.py (.tuple ps)) n → rTUPOF c.K [.ref b] H Q := fun {b xs ps} hs t q =>
    ⟨b, xs, rfl, .inl ⟨hs, fun l hl => k (.ref l) _ _ n q (Ek.new hl) (a.good.new hl) (.tup (a.fresh hl) (.inl upd_same) (t.new hl))⟩⟩
  match d, p, x with
  | .py (.tuple ps), p, x =>
    obtain ⟨b, xs, rfl, hs, t⟩ := Da.tuple_at x
    exact ⟨b, xs, rfl, .inr ⟨hs, k _ H _ n p Ek.refl a.good x⟩⟩
  | .py (.list ps), p, x =>
    obtain ⟨b, xs, rfl, hs, t⟩ := Da.list_at x
    exact nt hs t p
  | .mine (.lst ps), p, x =>
    obtain ⟨b, rfl, _, _, xs, hs, t⟩ := x
    exact nt (SqL.of hs) t p
  | .brw ps, p, x =>
    obtain ⟨b, xs, rfl, _, _, hs, t⟩ := x
    exact nt (SqL.of hs) t p⟩
/-- all(..) of a list of truth values -/
def Bls (ds : List PyData) (k : List Bool → Prop) : Prop := ∃ bs : List Bool, ds = bs.map PyData.bool ∧ k bs
theorem DaL.bls {S : Addr → Prop} {H : Hp} : ∀ {xs : List V} {bs : List Bool}, DaL K S H xs (bs.map PyData.bool) → xs = bs.map V.bl
  | [], [], _ => rfl
  | x :: xs, b :: bs, h => by
    cases h with
    | cons h t =>
      cases Da.bl_eq h
      rw [DaL.bls t] <;> rfl
theorem cw_all {ds : List D} (hK : K = c.K) (h : One ds fun d => Ls d fun ps => Bls ps fun bs => Φ (.py (.bool (bs.all id))) n) : Cw c (rAll K) ds n Φ := ⟨fun A H vs a x Q k => by
  subst hK
  obtain ⟨v, d, rfl, x, p⟩ := one_of h x
  obtain ⟨b, xs, ps, rfl, hs, t, bs, rfl, q⟩ := ls_of p x
  exact ⟨b, bs, rfl, by rw [← DaL.bls t]; exact hs, k _ H _ n q Ek.refl a.good (.bl _)⟩⟩
end
section
variable {X : Cx}
theorem callINT1 : CallR X (.type "int") rINT1 := call_int1
theorem callLISTOF : CallR X (.type "list") (rLISTOF X.K) := call_list_of
theorem callTUPOF : CallR X (.type "tuple") (rTUPOF X.K) := call_tuple_of
end
end Wx

/-! ### part Wv -/
set_option Elab.async false
set_option linter.all false
set_option maxRecDepth 100000
set_option maxHeartbeats 1000000
set_option autoImplicit false
/-! The rules of the calculus: targets, statements, loops, comprehensions, calls, defs. -/
namespace Wx
open PySem L2
/-! ## targets -/
def Apt (js : List Nat) (σ σ' : St) : Prop := σ'.length = σ.length ∧ ∀ i, i ∉ js → σ'[i]? = σ[i]?
structure Wg (c : Cy) (g : TG) (js : List Nat) (d : D) (e : En) (Φ : En → Prop) : Prop where
  run : ∀ (σ : St) (A : Addr → Prop) (H : Hp) (v : V), Ok c A H σ e → DX c A H v d → ∀ Q : St → Hp → Prop, (∀ σ' e', Φ e' → Ok c A H σ' e' → Apt js σ σ' → (∀ a, ownA σ' e'.sl a → ownA σ e.sl a) → Q σ' H) → g v σ H Q
section
variable {c : Cy} {A : Addr → Prop} {H : Hp} {σ : St} {e : En} {d : D} {v : V}
theorem own_set {i : Nat} {y : Option V} {a : Addr} (h : ownA (σ.set i y) (e.sl.set i (.val d)) a) : ownA σ e.sl a := by
  obtain ⟨j, ds, h1, h2⟩ := h
  by_cases q : i = j
  · subst q
    rw [List.getElem?_set] at h1
    split at h1
    · split at h1 <;> cases h1
    · rename_i z; exact absurd rfl z
  · rw [List.getElem?_set_ne q] at h1 h2
    exact ⟨j, ds, h1, h2⟩
theorem own_emp {i : Nat} {y : Option V} {a : Addr} (h : ownA (σ.set i y) (e.sl.set i .emp) a) : ownA σ e.sl a := by
  obtain ⟨j, ds, h1, h2⟩ := h
  by_cases q : i = j
  · subst q
    rw [List.getElem?_set] at h1
    split at h1
    · split at h1 <;> cases h1
    · rename_i z; exact absurd rfl z
  · rw [List.getElem?_set_ne q] at h1 h2
    exact ⟨j, ds, h1, h2⟩
theorem Ok.set_ (o : Ok c A H σ e) {i : Nat} (hi : i < e.sl.length) (nm : d.nm = true) (x : DX c A H v d) : Ok c A H (σ.set i (some v)) ⟨e.sl.set i (.val d), e.n⟩ := by
  refine ⟨by rw [List.length_set, List.length_set]; exact o.len, o.good, fun a z => o.sub a (z.elim .inl fun w => .inr (own_set w)), o.al, fun j u h => ?_, fun j ds h => ?_, fun j l ds es a h1 h2 h3 h4 => ?_⟩
  · by_cases q : i = j
    · subst q
      rw [List.getElem?_set_self hi] at h
      cases h
      exact ⟨nm, v, by rw [List.getElem?_set_self (by rw [o.len]; exact hi)], x⟩
    · have h' : e.sl[j]? = some (Slo.val u) := by rw [← List.getElem?_set_ne q]; exact h
      rw [List.getElem?_set_ne q]
      exact o.val j u h'
  · by_cases q : i = j
    · subst q
      have h' : (e.sl.set i (Slo.val d))[i]? = some (Slo.own ds) := h
      rw [List.getElem?_set_self hi] at h'
      cases h'
    · have h' : e.sl[j]? = some (Slo.own ds) := by rw [← List.getElem?_set_ne q]; exact h
      rw [List.getElem?_set_ne q]
      exact o.own j ds h'
  · have f : ∀ {m : Nat} {fs : Ow}, (e.sl.set i (Slo.val d))[m]? = some (Slo.own fs) → i ≠ m := fun {m fs} h q => by
      subst q
      rw [List.getElem?_set_self hi] at h
      cases h
    have q1 := f h1
    have q2 := f h2
    have h1' : e.sl[j]? = some (Slo.own ds) := by rw [← List.getElem?_set_ne q1]; exact h1
    have h2' : e.sl[l]? = some (Slo.own es) := by rw [← List.getElem?_set_ne q2]; exact h2
    rw [List.getElem?_set_ne q1] at h3
    rw [List.getElem?_set_ne q2] at h4
    exact o.sep j l ds es a h1' h2' h3 h4
theorem Ok.wipe1 (o : Ok c A H σ e) {i : Nat} (hi : i < e.sl.length) : Ok c A H (σ.set i none) ⟨e.sl.set i .emp, e.n⟩ := by
  refine ⟨by rw [List.length_set, List.length_set]; exact o.len, o.good, fun a z => o.sub a (z.elim .inl fun w => .inr (own_emp w)), o.al, fun j u h => ?_, fun j ds h => ?_, fun j l ds es a h1 h2 h3 h4 => ?_⟩
  · by_cases q : i = j
    · subst q
      rw [List.getElem?_set_self hi] at h
      cases h
    · have h' : e.sl[j]? = some (Slo.val u) := by rw [← List.getElem?_set_ne q]; exact h
      rw [List.getElem?_set_ne q]
      exact o.val j u h'
  · by_cases q : i = j
    · subst q
      have h' : (e.sl.set i Slo.emp)[i]? = some (Slo.own ds) := h
      rw [List.getElem?_set_self hi] at h'
      cases h'
    · have h' : e.sl[j]? = some (Slo.own ds) := by rw [← List.getElem?_set_ne q]; exact h
      rw [List.getElem?_set_ne q]
      exact o.own j ds h'
  · have f : ∀ {m : Nat} {fs : Ow}, (e.sl.set i Slo.emp)[m]? = some (Slo.own fs) → i ≠ m := fun {m fs} h q => by
      subst q
      rw [List.getElem?_set_self hi] at h
      cases h
    have q1 := f h1
    have q2 := f h2
    have h1' : e.sl[j]? = some (Slo.own ds) := by rw [← List.getElem?_set_ne q1]; exact h1
    have h2' : e.sl[l]? = some (Slo.own es) := by rw [← List.getElem?_set_ne q2]; exact h2
    rw [List.getElem?_set_ne q1] at h3
    rw [List.getElem?_set_ne q2] at h4
    exact o.sep j l ds es a h1' h2' h3 h4
/-- a new list of one's own goes to a name -/
theorem Ok.set_own {H0 : Hp} {p : Addr} {w : Ow} {n : Nat} (o : Ok c A H0 σ e) (k : Ek c H0 H) (g : Good c n H) (hp : H0 p = none) (t : OwAt c.K (fun a => A a ∨ a = p) H p w) {i : Nat} (hi : i < e.sl.length) :
    Ok c (fun a => A a ∨ a = p) H (σ.set i (some (.ref p))) ⟨e.sl.set i (.own w), n⟩ := by
  have nS : ¬ c.S0 p := fun z => o.good.al p z hp
  have k' : ∀ a, c.k = some a → A a ∨ a = p := fun a z => .inl (o.k a z)
  have notp : ∀ (j : Nat) (es : Ow) (a : Addr), e.sl[j]? = some (Slo.own es) → σ[j]? = some (some (V.ref a)) → a ≠ p := fun j es a h1 h3 q => by
    obtain ⟨b, h5, h6, _⟩ := o.own j es h1
    rw [h3] at h5; cases h5
    exact h6.al (by rw [q]; exact hp)
  refine ⟨by rw [List.length_set, List.length_set]; exact o.len, g, fun a z => ?_, fun a z => ?_, fun j u h => ?_, fun j es h => ?_, fun j l es fs a h1 h2 h3 h4 => ?_⟩
  · rcases z with z | ⟨j, es, h1, h3⟩
    · exact .inl (o.sub a (.inl z))
    · by_cases q : i = j
      · subst q
        rw [List.getElem?_set_self (by rw [o.len]; exact hi)] at h3
        cases h3
        exact .inr rfl
      · rw [List.getElem?_set_ne q] at h3
        have h1' : e.sl[j]? = some (Slo.own es) := by rw [← List.getElem?_set_ne q]; exact h1
        exact .inl (o.sub a (.inr ⟨j, es, h1', h3⟩))
  · rcases z with z | z
    · exact (o.keep k g).al a z
    · rw [z]; exact t.al
  · by_cases q : i = j
    · subst q
      have h' : (e.sl.set i (Slo.own w))[i]? = some (Slo.val u) := h
      rw [List.getElem?_set_self hi] at h'
      cases h'
    · have h' : e.sl[j]? = some (Slo.val u) := by rw [← List.getElem?_set_ne q]; exact h
      obtain ⟨nm, w, h3, h4⟩ := o.val j u h'
      rw [List.getElem?_set_ne q]
      exact ⟨nm, w, h3, (h4.apart hp).keep k k'⟩
  · by_cases q : i = j
    · subst q
      have h' : (e.sl.set i (Slo.own w))[i]? = some (Slo.own es) := h
      rw [List.getElem?_set_self hi] at h'
      cases h'
      exact ⟨p, by rw [List.getElem?_set_self (by rw [o.len]; exact hi)], t, nS⟩
    · have h' : e.sl[j]? = some (Slo.own es) := by rw [← List.getElem?_set_ne q]; exact h
      obtain ⟨b, h3, h5, h6⟩ := o.own j es h'
      rw [List.getElem?_set_ne q]
      exact ⟨b, h3, (h5.apart hp).keep (Ek.kept k k') fun u r => k b u (fun z => h6 (c.hk b z)) r, h6⟩
  · have f : ∀ {m : Nat} {gs : Ow}, (e.sl.set i (Slo.own w))[m]? = some (Slo.own gs) → i ≠ m → e.sl[m]? = some (Slo.own gs) := fun {m gs} h q => by rw [← List.getElem?_set_ne q]; exact h
    by_cases q1 : i = j
    · by_cases q2 : i = l
      · rw [← q1, ← q2]
      · subst q1
        rw [List.getElem?_set_self (by rw [o.len]; exact hi)] at h3
        rw [List.getElem?_set_ne q2] at h4
        cases h3
        exact absurd rfl (notp l fs _ (f h2 q2) h4)
    · by_cases q2 : i = l
      · subst q2
        rw [List.getElem?_set_self (by rw [o.len]; exact hi)] at h4
        rw [List.getElem?_set_ne q1] at h3
        cases h4
        exact absurd rfl (notp j es _ (f h1 q1) h3)
      · rw [List.getElem?_set_ne q1] at h3
        rw [List.getElem?_set_ne q2] at h4
        exact o.sep j l es fs a (f h1 q1) (f h2 q2) h3 h4
theorem Apt.set {i : Nat} {y : Option V} {js : List Nat} (h : i ∈ js) : Apt js σ (σ.set i y) := ⟨List.length_set, fun j hj => List.getElem?_set_ne fun (q : i = j) => hj (by rw [← q]; exact h)⟩
theorem Apt.trans {σ1 σ2 : St} {js : List Nat} (a : Apt js σ σ1) (b : Apt js σ1 σ2) : Apt js σ σ2 := ⟨b.1.trans a.1, fun i h => (b.2 i h).trans (a.2 i h)⟩
variable {Φ : En → Prop} {js : List Nat}
theorem wg_name {i : Nat} (q : d.nm = true ∧ Φ ⟨e.sl.set i (.val d), e.n⟩) (hi : i < e.sl.length := by first | decide | (simp; done)) (hj : i ∈ js := by first | decide | (simp; done)) : Wg c (gName i) js d e Φ := ⟨fun σ A H v o x Q k => k _ _ q.2 (o.set_ hi q.1 x) (Apt.set hj) fun _ => own_set⟩
theorem wg_pair {K : PySem.W.Frag} {g1 g2 : TG} (hK : K = c.K) (h : ∃ p q, d = .py (.tuple [p, q]) ∧ Wg c g1 js (.py p) e fun e1 => Wg c g2 js (.py q) e1 Φ) : Wg c (gTup K 2 (gCons g1 (gCons g2 gNil))) js d e Φ := ⟨fun σ A H v o x Q k => by
  subst hK
  obtain ⟨p, q, rfl, h⟩ := h
  obtain ⟨a, xs, rfl, hs, t⟩ := Da.tuple_at x
  cases t with
  | cons y1 t =>
    cases t with
    | cons y2 t =>
      cases t
      refine ⟨a, _, rfl, hs, rfl, _, _, rfl, h.run σ A H _ o y1 _ fun σ1 e1 h1 o1 w1 u1 => ⟨_, _, rfl, h1.run σ1 A H _ o1 y2 _ fun σ2 e2 h2 o2 w2 u2 => ⟨rfl, k σ2 e2 h2 o2 (w1.trans w2) fun b z => u1 b (u2 b z)⟩⟩⟩⟩
end

/-! ## statements -/
structure Po where
  nx : En → Prop
  rt : D → Nat → Prop
  bk : En → Prop := fun _ => False
  ct : En → Prop := fun _ => False
def Kp (c : Cy) (σ : St) (e : En) (H H' : Hp) : Prop := Kept (fun a => c.k = some a ∨ ownA σ e.sl a) H H'
def Gx (c : Cy) (σ : St) (H : Hp) (e : En) (k : En → Prop) (F : St → Hp → Prop) : Prop :=
  ∀ (σ' : St) (A' : Addr → Prop) (H' : Hp) (e' : En), k e' → Kp c σ e H H' → (∀ a, ownA σ' e'.sl a → ownA σ e.sl a ∨ H a = none) → Ok c A' H' σ' e' → F σ' H'
def Rx (c : Cy) (σ : St) (H : Hp) (e : En) (k : D → Nat → Prop) (F : VK) : Prop :=
  ∀ (v : V) (H' : Hp) (d : D) (n : Nat), k d n → Kp c σ e H H' → Good c n H' → DX c c.S0 H' v d → F v H'
structure Ws (c : Cy) (ts : TS) (e : En) (P : Po) : Prop where
  run : ∀ (σ : St) (A : Addr → Prop) (H : Hp), Ok c A H σ e → ∀ Dn : Ends, Gx c σ H e P.nx Dn.nx → Rx c σ H e P.rt Dn.rt → Gx c σ H e P.bk Dn.bk → Gx c σ H e P.ct Dn.ct → ts Dn σ H
section
variable {c : Cy} {A A1 : Addr → Prop} {H H1 : Hp} {σ σ1 : St} {e e1 : En}
theorem Kp.ek (h : Ek c H H1) : Kp c σ e H H1 := fun a o n q => h a o (fun z => n (.inl z)) q
theorem Kp.trans {H2 : Hp} (a : Kp c σ e H H1) (w : ∀ a, ownA σ1 e1.sl a → ownA σ e.sl a ∨ H a = none) (b : Kp c σ1 e1 H1 H2) : Kp c σ e H H2 := fun x o n h =>
  b x o (fun z => z.elim (fun z => n (.inl z)) fun z => (w x z).elim (fun z => n (.inr z)) fun z => by rw [h] at z; cases z) (a x o n h)
theorem own_back (o : Ok c A H σ e) (g : Good c e1.n H1) (k : Kp c σ e H H1) {a : Addr} (h : ownA σ e.sl a ∨ H1 a = none) : ownA σ e.sl a ∨ H a = none := by
  rcases h with h | h
  · exact .inl h
  · by_cases w : ownA σ e.sl a
    · exact .inl w
    · right
      cases q : H a with
      | none => rfl
      | some u =>
        by_cases z : c.k = some a
        · obtain ⟨_, _, _, q2, _⟩ := g.kl a z
          rw [h] at q2; cases q2
        · rw [k a u (fun y => y.elim z w) q] at h; cases h
theorem Gx.after {k : En → Prop} {F : St → Hp → Prop} (h : Gx c σ H e k F) (o : Ok c A H σ e) (a : Kp c σ e H H1) (w : ∀ a, ownA σ1 e1.sl a → ownA σ e.sl a ∨ H a = none) (o1 : Ok c A1 H1 σ1 e1) : Gx c σ1 H1 e1 k F := fun σ' A' H' e' p b w' o' =>
  h σ' A' H' e' p (a.trans w b) (fun x z => by
    rcases w' x z with z | z
    · exact w x z
    · exact own_back o o1.good a (.inr z)) o'
theorem Rx.after {k : D → Nat → Prop} {F : VK} (h : Rx c σ H e k F) (a : Kp c σ e H H1) (w : ∀ a, ownA σ1 e1.sl a → ownA σ e.sl a ∨ H a = none) : Rx c σ1 H1 e1 k F := fun v H' d n p b g x => h v H' d n p (a.trans w b) g x
theorem same_own {n : Nat} {a : Addr} (h : ownA σ (En.mk e.sl n).sl a) : ownA σ e.sl a ∨ H a = none := .inl h
theorem Gx.ek {k : En → Prop} {F : St → Hp → Prop} {n : Nat} (h : Gx c σ H e k F) (o : Ok c A H σ e) (a : Ek c H H1) (g : Good c n H1) : Gx c σ H1 ⟨e.sl, n⟩ k F := h.after o (Kp.ek a) (fun _ z => .inl z) (o.keep a g)
theorem Rx.ek {k : D → Nat → Prop} {F : VK} {n : Nat} (h : Rx c σ H e k F) (a : Ek c H H1) : Rx c σ H1 ⟨e.sl, n⟩ k F := h.after (Kp.ek a) fun _ z => .inl z
variable {P : Po} {t u : TS} {te : TE} {tt : TT}
theorem ws_seq {sl : List Slo} {nn : Nat} (h : Ws c t ⟨sl, nn⟩ ⟨fun e1 => Ws c u e1 P, P.rt, P.bk, P.ct⟩) : Ws c (tSeq t u) ⟨sl, nn⟩ P := ⟨fun σ A H o Dn nx rt bk ct =>
  h.run σ A H o { Dn with nx := u Dn } (fun σ1 A1 H1 e1 q a w o1 => q.run σ1 A1 H1 o1 Dn (nx.after o a w o1) (rt.after a w) (bk.after o a w o1) (ct.after o a w o1)) rt bk ct⟩
theorem ws_next {sl : List Slo} {nn : Nat} (q : P.nx ⟨sl, nn⟩) : Ws c tNext ⟨sl, nn⟩ P := ⟨fun σ A H o Dn nx _ _ _ => nx σ A H ⟨sl, nn⟩ q Kept.refl (fun _ z => .inl z) o⟩
theorem ws_brk {sl : List Slo} {nn : Nat} (q : P.bk ⟨sl, nn⟩) : Ws c tBreak ⟨sl, nn⟩ P := ⟨fun σ A H o Dn _ _ bk _ => bk σ A H ⟨sl, nn⟩ q Kept.refl (fun _ z => .inl z) o⟩
theorem ws_cont {sl : List Slo} {nn : Nat} (q : P.ct ⟨sl, nn⟩) : Ws c tCont ⟨sl, nn⟩ P := ⟨fun σ A H o Dn _ _ _ ct => ct σ A H ⟨sl, nn⟩ q Kept.refl (fun _ z => .inl z) o⟩
theorem ws_if {sl : List Slo} {nn : Nat} (h : Wt c tt ⟨sl, nn⟩ fun b n => (b = true → Ws c t ⟨sl, n⟩ P) ∧ (b = false → Ws c u ⟨sl, n⟩ P)) : Ws c (tIfS tt t u) ⟨sl, nn⟩ P := ⟨fun σ A H o Dn nx rt bk ct => by
  refine h.run σ A H o _ fun b H1 n p e1 g1 => ?_
  cases b with
  | true => exact iteT ((p.1 rfl).run σ A H1 (o.keep e1 g1) Dn (nx.ek o e1 g1) (rt.ek e1) (bk.ek o e1 g1) (ct.ek o e1 g1))
  | false => exact iteF ((p.2 rfl).run σ A H1 (o.keep e1 g1) Dn (nx.ek o e1 g1) (rt.ek e1) (bk.ek o e1 g1) (ct.ek o e1 g1))⟩
def frz : D → D
  | .mine (.lst ds) => .py (.list ds)
  | .mine (.dct ds) => .dct ds
  | .mine (.ins C fs) => .ins C fs
  | .mine (.lsi _ _) => .lsx
  | d => d
theorem frz_ok {v : V} {d : D} (s : ∀ a, c.S0 a → A a) (h : DX c A H v d) : DX c c.S0 H v (frz d) := by
  cases d with
  | mine w =>
    obtain ⟨a, rfl, n, _, t⟩ := h
    cases w with
    | lst ds => obtain ⟨xs, r, t⟩ := t; exact .lst n (.inl r) (t.less s)
    | dct ds => obtain ⟨xs, r, t⟩ := t; exact ⟨a, xs, rfl, n, r, t.less s⟩
    | ins C fs => obtain ⟨dx, vs, r, t⟩ := t; exact ⟨a, dx, vs, rfl, n, r, t.less s⟩
    | lsi C gs => obtain ⟨xs, r, t⟩ := t; exact ⟨a, xs, rfl, n, r⟩
  | dct ds => exact DX.less (d := .dct ds) s rfl h
  | dcl ds => exact DX.less (d := .dcl ds) s rfl h
  | py p => exact DX.less (d := .py p) s rfl h
  | brw ds => exact DX.less (d := .brw ds) s rfl h
  | ins C fs => exact DX.less (d := .ins C fs) s rfl h
  | atom w => exact h
  | kln => exact h
  | lsx => exact DX.less (d := .lsx) s rfl h
theorem ws_ret {sl : List Slo} {nn : Nat} (h : Wp c te ⟨sl, nn⟩ fun d n => P.rt (frz d) n) : Ws c (tRet te) ⟨sl, nn⟩ P := ⟨fun σ A H o Dn _ rt _ _ => by
  refine h.run σ A H o _ fun v H1 d n p e1 g1 x => ?_
  exact rt v H1 _ n p (Kp.ek e1) g1 (frz_ok (fun a z => o.sub a (.inl z)) x)⟩
theorem ws_retN {sl : List Slo} {nn : Nat} (q : P.rt (.py .none) nn) : Ws c tRetN ⟨sl, nn⟩ P := ⟨fun σ A H o Dn _ rt _ _ => rt .non H _ nn q Kept.refl o.good .non⟩
theorem ws_drop {sl : List Slo} {nn : Nat} (h : Wp c te ⟨sl, nn⟩ fun d n => P.nx ⟨sl, n⟩) : Ws c (tDrop te) ⟨sl, nn⟩ P := ⟨fun σ A H o Dn nx _ _ _ => by
  refine h.run σ A H o _ fun v H1 d n p e1 g1 x => ?_
  exact nx σ A H1 ⟨sl, n⟩ p (Kp.ek e1) (fun _ z => .inl z) (o.keep e1 g1)⟩
theorem ws_asg {sl : List Slo} {nn : Nat} {g : TG} (js : List Nat) (h : Wp c te ⟨sl, nn⟩ fun d n => Wg c g js d ⟨sl, n⟩ P.nx) : Ws c (tAsg te g) ⟨sl, nn⟩ P := ⟨fun σ A H o Dn nx _ _ _ => by
  refine h.run σ A H o _ fun v H1 d n p e1 g1 x => ?_
  refine p.run σ A H1 v (o.keep e1 g1) x _ fun σ' e' q o' _ w => ?_
  exact nx σ' A H1 e' q (Kp.ek e1) (fun a z => .inl (w a z)) o'⟩
/-- x = a value -/
theorem ws_set {sl : List Slo} {nn : Nat} {i : Nat} (h : Wp c te ⟨sl, nn⟩ fun d n => d.nm = true ∧ P.nx ⟨sl.set i (.val d), n⟩) (hi : i < sl.length := by first | decide | (simp; done)) : Ws c (tAsg te (gName i)) ⟨sl, nn⟩ P :=
  ws_asg [i] (h.mono fun d n q => wg_name (js := [i]) q hi (by simp))
/-- x = a new list that is changed later -/
theorem ws_own {sl : List Slo} {nn : Nat} {i : Nat} (h : Wn c te ⟨sl, nn⟩ fun w n => P.nx ⟨sl.set i (.own w), n⟩) (hi : i < sl.length := by first | decide | (simp; done)) : Ws c (tAsg te (gName i)) ⟨sl, nn⟩ P := ⟨fun σ A H o Dn nx _ _ _ => by
  refine h.run σ A H o _ fun p H1 w n q e1 g1 hp t => ?_
  refine nx (σ.set i (some (.ref p))) (fun a => A a ∨ a = p) H1 ⟨sl.set i (.own w), n⟩ q (Kp.ek e1) (fun a z => ?_) (o.set_own e1 g1 hp t hi)
  obtain ⟨j, es, h3, h4⟩ := z
  by_cases r : i = j
  · subst r
    rw [List.getElem?_set_self (by rw [o.len]; exact hi)] at h4
    cases h4
    exact .inr hp
  · rw [List.getElem?_set_ne r] at h4
    have h3' : sl[j]? = some (Slo.own es) := by rw [← List.getElem?_set_ne r]; exact h3
    exact .inl ⟨j, es, h3', h4⟩⟩
theorem ws_par {sl : List Slo} {nn : Nat} {i j : Nat} {ta : TA} (h : Wa c ta ⟨sl, nn⟩ fun ds n => Two ds fun d u => d.nm = true ∧ u.nm = true ∧ P.nx ⟨(sl.set i (.val d)).set j (.val u), n⟩) (hi : i < sl.length := by first | decide | (simp; done)) (hj : j < sl.length := by first | decide | (simp; done)) : Ws c (tPar i j ta) ⟨sl, nn⟩ P := ⟨fun σ A H o Dn nx _ _ _ => by
  refine h.run σ A H o _ fun vs H1 ds n p e1 g1 x => ?_
  obtain ⟨v, w, d, u, rfl, x1, x2, m1, m2, q⟩ := two_of p x
  have o2 := ((o.keep e1 g1).set_ hi m1 x1).set_ (i := j) (by show j < (sl.set i _).length; rw [List.length_set]; exact hj) m2 x2
  exact ⟨v, w, rfl, nx _ A H1 _ q (Kp.ek e1) (fun a z => .inl (own_set (e := ⟨sl, nn⟩) (own_set (e := ⟨sl.set i (.val d), n⟩) z))) o2⟩⟩
/-- i, j = a new list, a value -/
theorem ws_parN {sl : List Slo} {nn : Nat} {i j : Nat} {te2 : TE} (h : Wn c te ⟨sl, nn⟩ fun w n => Wp c te2 ⟨sl, n⟩ fun d m => d.nm = true ∧ P.nx ⟨(sl.set i (.own w)).set j (.val d), m⟩) (hi : i < sl.length := by first | decide | (simp; done)) (hj : j < sl.length := by first | decide | (simp; done)) (hij : i ≠ j := by decide) :
    Ws c (tPar i j (tCons te (tCons te2 tNil))) ⟨sl, nn⟩ P := ⟨fun σ A H o Dn nx _ _ _ => by
  refine h.run σ A H o _ fun p H1 w n q e1 g1 hp t => ?_
  have o1 : Ok c (fun a => A a ∨ a = p) H1 σ ⟨sl, n⟩ := by
    have o' := o.set_own e1 g1 hp t hi
    exact ⟨o.len, g1, fun a z => .inl (o.sub a z), o'.al, fun j u h => by
      obtain ⟨nm, w, h3, h4⟩ := o.val j u h
      exact ⟨nm, w, h3, (h4.apart hp).keep e1 fun a z => .inl (o.k a z)⟩, fun j es h => by
      obtain ⟨b, h3, h5, h6⟩ := o.own j es h
      exact ⟨b, h3, (h5.apart hp).keep (Ek.kept e1 fun a z => .inl (o.k a z)) fun u r => e1 b u (fun z => h6 (c.hk b z)) r, h6⟩, o.sep⟩
  refine q.run σ _ H1 o1 _ fun v H2 d m q e2 g2 x => ?_
  obtain ⟨nm, q⟩ := q
  have o2 := o.set_own (i := i) (e1.trans e2) g2 hp (t.keep (Ek.kept e2 fun a z => .inl (o.k a z)) fun u r => e2 p u (fun z => o.good.al p (c.hk p z) hp) r) hi
  have o3 := o2.set_ (i := j) (by show j < (sl.set i _).length; rw [List.length_set]; exact hj) nm x
  refine ⟨.ref p, v, rfl, nx _ _ H2 _ q (Kp.ek (e1.trans e2)) (fun a z => ?_) o3⟩
  obtain ⟨l, es, h3, h4⟩ := own_set (e := ⟨sl.set i (.own w), m⟩) z
  by_cases r : i = l
  · subst r
    rw [List.getElem?_set_self (by rw [o.len]; exact hi)] at h4
    cases h4
    exact .inr hp
  · rw [List.getElem?_set_ne r] at h4
    have h3' : sl[l]? = some (Slo.own es) := by rw [← List.getElem?_set_ne r]; exact h3
    exact .inl ⟨l, es, h3', h4⟩⟩
/-- what is one's own is changed -/
theorem Ok.put {i : Nat} {a : Addr} {w w' : Ow} {u : HO} {n : Nat} (o : Ok c A H σ e) (hi : e.sl[i]? = some (.own w)) (h1 : σ[i]? = some (some (.ref a))) (nS : ¬ c.S0 a) (g : Good c n H) (t : OwAt c.K A (upd H a u) a w') :
    Ok c A (upd H a u) σ ⟨e.sl.set i (.own w'), n⟩ ∧ Kp c σ e H (upd H a u) ∧ (∀ b, ownA σ (e.sl.set i (.own w')) b → ownA σ e.sl b) := by
  have aA : A a := o.sub a (.inr ⟨i, w, hi, h1⟩)
  have nk : c.k ≠ some a := fun z => nS (c.hk a z)
  have k2 : Kept A H (upd H a u) := fun b x nb q => by rw [upd_ne fun z => nb (by rw [z]; exact aA)]; exact q
  have il : i < e.sl.length := (List.getElem?_eq_some_iff.mp hi).1
  have back : ∀ b, ownA σ (e.sl.set i (.own w')) b → ownA σ e.sl b := fun b ⟨j, es, z1, z2⟩ => by
    by_cases r : i = j
    · subst r; exact ⟨i, w, hi, z2⟩
    · have z1' : e.sl[j]? = some (Slo.own es) := by rw [← List.getElem?_set_ne r]; exact z1
      exact ⟨j, es, z1', z2⟩
  have g2 : Good c n (upd H a u) := ⟨fun b z => by
      by_cases q : b = a
      · rw [q, upd_same]; exact fun w => nomatch w
      · rw [upd_ne q]; exact g.al b z, fun b z => by
      rw [upd_ne fun q => nk (by rw [← q]; exact z)]; exact g.kl b z⟩
  refine ⟨⟨by rw [List.length_set]; exact o.len, g2, fun b z => z.elim (fun z => o.sub b (.inl z)) fun z => o.sub b (.inr (back b z)), fun b z => ?_, fun j w z => ?_, fun j es z => ?_, fun j l es fs b z1 z2 z3 z4 => ?_⟩, fun b x nb q => by rw [upd_ne fun z => nb (by rw [z]; exact .inr ⟨i, w, hi, h1⟩)]; exact q, back⟩
  · by_cases q : b = a
    · rw [q, upd_same]; exact fun w => nomatch w
    · rw [upd_ne q]; exact o.al b z
  · by_cases r : i = j
    · subst r
      have z' : (e.sl.set i (Slo.own w'))[i]? = some (Slo.val w) := z
      rw [List.getElem?_set_self il] at z'
      cases z'
    · have z' : e.sl[j]? = some (Slo.val w) := by rw [← List.getElem?_set_ne r]; exact z
      obtain ⟨nm, y, y1, y2⟩ := o.val j w z'
      refine ⟨nm, y, y1, ?_⟩
      cases w with
      | py p => exact Da.keep k2 y2
      | mine ds => cases nm
      | dct ds =>
        obtain ⟨b, kvs, w1, w2, w3, w4⟩ := y2
        exact ⟨b, kvs, w1, w2, k2 b _ w2 w3, w4.keep k2⟩
      | dcl ds =>
        obtain ⟨b, kvs, od, w1, w2, w3, w4⟩ := y2
        exact ⟨b, kvs, od, w1, w2, k2 b _ w2 w3, w4.keep k2⟩
      | brw es =>
        obtain ⟨b, ys, w1, w2, w3, w4, w5⟩ := y2
        exact ⟨b, ys, w1, w2, w3, by rw [upd_ne fun z => nS (by rw [← z]; exact w3)]; exact w4, w5.keep k2⟩
      | ins C fs =>
        obtain ⟨b, dx, vs, w1, w2, w3, w4⟩ := y2
        exact ⟨b, dx, vs, w1, w2, k2 b _ w2 w3, w4.keep k2⟩
      | atom w => exact y2
      | kln => exact y2
      | lsx =>
        obtain ⟨b, ys, w1, w2, w3⟩ := y2
        exact ⟨b, ys, w1, w2, k2 b _ w2 w3⟩
  · by_cases r : i = j
    · subst r
      have z' : (e.sl.set i (Slo.own w'))[i]? = some (Slo.own es) := z
      rw [List.getElem?_set_self il] at z'
      cases z'
      exact ⟨a, h1, t, nS⟩
    · have z' : e.sl[j]? = some (Slo.own es) := by rw [← List.getElem?_set_ne r]; exact z
      obtain ⟨b, y1, y3, y4⟩ := o.own j es z'
      exact ⟨b, y1, y3.keep k2 fun x q => by rw [upd_ne fun q => r (o.sep i j w es a hi z' h1 (by rw [← q]; exact y1))]; exact q, y4⟩
  · have f : ∀ {m : Nat} {gs : Ow}, (e.sl.set i (Slo.own w'))[m]? = some (Slo.own gs) → ∃ hs, e.sl[m]? = some (Slo.own hs) := fun {m gs} h => by
      by_cases r : i = m
      · subst r; exact ⟨w, hi⟩
      · rw [List.getElem?_set_ne r] at h; exact ⟨gs, h⟩
    obtain ⟨es', f1⟩ := f z1
    obtain ⟨fs', f2⟩ := f z2
    exact o.sep j l es' fs' b f1 f2 z3 z4
/-- xs.append(e), xs a list of one's own -/
theorem ws_app {sl : List Slo} {nn : Nat} {K : PySem.W.Frag} {i : Nat} {ds : List PyData} (hK : K = c.K) (hi : sl[i]? = some (.own (.lst ds))) (h : Wp c te ⟨sl, nn⟩ fun d n => ∃ p, d = .py p ∧ ds.length < sizeLine ∧ P.nx ⟨sl.set i (.own (.lst (ds ++ [p]))), n⟩) :
    Ws c (tDrop (tBM K "list" rAppend (tVar i) (tCons te tNil))) ⟨sl, nn⟩ P := ⟨fun σ A H o Dn nx _ _ _ => by
  subst hK
  obtain ⟨a, h1, ⟨xs, h2, h3⟩, h4⟩ := o.own i _ hi
  refine ⟨.ref a, h1, .inl ⟨rfl, xs, SqL.of h2⟩, h.run σ A H o _ fun v H1 d n p e1 g1 x => ?_⟩
  obtain ⟨p, rfl, hz, q⟩ := p
  have o1 := o.keep e1 g1
  have nk : c.k ≠ some a := fun z => h4 (c.hk a z)
  have ha : H1 a = some (.lst xs) := e1 a _ nk h2
  have aA : A a := o.sub a (.inr ⟨i, _, hi, h1⟩)
  have k2 : Kept A H1 (upd H1 a (.lst (xs ++ [v]))) := fun b u nb q => by rw [upd_ne fun z => nb (by rw [z]; exact aA)]; exact q
  obtain ⟨o2, kp, bk⟩ := o1.put (w' := .lst (ds ++ [p])) (u := .lst (xs ++ [v])) hi h1 h4 g1 ⟨_, upd_same, ((h3.keep (Ek.kept e1 o.k)).append (.cons x .nil)).keep k2⟩
  exact ⟨a, xs, v, rfl, rfl, ha, by rw [h3.len]; exact hz, nx σ A _ ⟨sl.set i (.own (.lst (ds ++ [p]))), n⟩ q (fun b u nb w => kp b u nb (e1 b u (fun z => nb (.inl z)) w)) (fun b z => .inl (bk b z)) o2⟩⟩
end
end Wx

/-! ### part Wu -/
set_option Elab.async false
set_option linter.all false
set_option maxRecDepth 100000
set_option maxHeartbeats 1000000
set_option autoImplicit false
/-! The rules of the calculus: loops, comprehensions, calls, defs. -/
namespace Wx
open PySem L2
section
variable {K : PySem.W.Frag} {A B M : Addr → Prop} {H H' : Hp}
mutual
theorem Da.to (k : Kept A H H') (w : ∀ a, B a → A a ∨ H a = none) : ∀ {v : V} {d : PyData}, Da K A H v d → Da K B H' v d
  | _, _, .non => .non
  | _, _, .bl b => .bl b
  | _, _, .int i => .int i
  | _, _, .str x => .str x
  | _, _, .lst n r t => .lst (fun z => (w _ z).elim n fun q => by rcases r with r | ⟨_, r⟩ <;> rw [q] at r <;> cases r) (k.rd n r) (DaL.to k w t)
  | _, _, .tup n r t => .tup (fun z => (w _ z).elim n fun q => by rcases r with r | ⟨_, r⟩ <;> rw [q] at r <;> cases r) (k.rd n r) (DaL.to k w t)
  | _, _, .lstK r t => .lstK r (DaL.to k w t)
  | _, _, .tupK r t => .tupK r (DaL.to k w t)
theorem DaL.to (k : Kept A H H') (w : ∀ a, B a → A a ∨ H a = none) : ∀ {vs : List V} {ds : List PyData}, DaL K A H vs ds → DaL K B H' vs ds
  | _, _, .nil => .nil
  | _, _, .cons h t => .cons (Da.to k w h) (DaL.to k w t)
end
theorem Kept.mono {S T : Addr → Prop} (k : Kept S H H') (w : ∀ a, S a → T a) : Kept T H H' := fun a o n h => k a o (fun z => n (w a z)) h
end
/-! ## what is walked -/
def Step (H H' : Hp) : Prop := H' = H ∨ ∃ T o, H T = none ∧ H' = upd H T o
theorem Step.kept {S : Addr → Prop} {H H' : Hp} (s : Step H H') : Kept S H H' := fun a o _ h => by
  rcases s with rfl | ⟨T, u, n, rfl⟩
  · exact h
  · rw [upd_ne (ne_of_none h n)]; exact h
theorem Step.good {c : Cy} {n : Nat} {H H' : Hp} (s : Step H H') (g : Good c n H) : Good c n H' := by
  rcases s with rfl | ⟨T, u, m, rfl⟩
  · exact g
  · exact g.new m
structure Gv (c : Cy) (M A : Addr → Prop) (H : Hp) (J : It) (its : List D) : Prop where
  go : ∀ (H' : Hp) (i : Nat), Kept M H H' → i < its.length → J.go i H'
  stop : ∀ (H' : Hp) (i : Nat), Kept M H H' → its.length ≤ i → J.stop i H'
  yld : ∀ (H' : Hp) (i : Nat) (x : V) (H'' : Hp), Kept M H H' → i < its.length → J.yld i H' x H'' →
    ∃ d, its[i]? = some d ∧ Step H' H'' ∧ ∀ B : Addr → Prop, (∀ a, B a → A a ∨ H a = none) → (∀ a, B a → H' a ≠ none) → (∀ a, c.S0 a → B a) → DX c B H'' x d
def Mm (c : Cy) (m : Bool) (σ : St) (e : En) (a : Addr) : Prop := c.k = some a ∨ (m = true ∧ ownA σ e.sl a)
structure Wi (c : Cy) (m : Bool) (wi : TI) (e : En) (Φ : List D → Nat → Prop) : Prop where
  run : ∀ (σ : St) (A : Addr → Prop) (H : Hp), Ok c A H σ e → ∀ R : It → Hp → Prop, (∀ J H1 its n, Φ its n → Ek c H H1 → Good c n H1 → Gv c (Mm c m σ e) A H1 J its → R J H1) → wi σ H R
section
variable {c : Cy} {e : En} {m : Bool} {Θ : List D → Nat → Prop} {tl : TE} {ta : TA} {K : PySem.W.Frag}
theorem Mm.sub {σ : St} {A : Addr → Prop} {H : Hp} (o : Ok c A H σ e) (a : Addr) (h : Mm c m σ e a) : A a := h.elim (fun z => o.k a z) fun z => o.sub a (.inr z.2)
def LsI (m : Bool) (d : D) (k : List PyData → Prop) : Prop := match d with
  | .py (.list ds) => k ds
  | .mine (.lst ds) => m = false ∧ k ds
  | _ => False
theorem getm {ds : List PyData} {i : Nat} {p : PyData} (h : ds[i]? = some p) : (ds.map D.py)[i]? = some (D.py p) := by rw [List.getElem?_map, h] <;> rfl
theorem gv_list {M A : Addr → Prop} {H : Hp} {a : Addr} {xs : List V} {ds : List PyData} (hM : ∀ a, M a → A a) (st : ∀ H', Kept M H H' → SqL c.K H' a xs) (t : DaL c.K A H xs ds) : Gv c M A H (Itl c.K a) (ds.map D.py) :=
  ⟨fun H' i k hi => by
    rw [List.length_map, ← t.len] at hi
    exact ⟨xs, xs[i], st H' k, by simp [hi]⟩, fun H' i k hi => by
    rw [List.length_map, ← t.len] at hi
    exact ⟨xs, st H' k, hi⟩, fun H' i x H'' k hi ⟨e1, y⟩ => by
    subst e1
    have hx := y xs (st _ k)
    obtain ⟨d, h1, h2⟩ := t.got hx
    exact ⟨.py d, getm h1, .inl rfl, fun B w _ _ => Da.to (k.mono hM) w h2⟩⟩
theorem wi_list {sl : List Slo} {nn : Nat} (hK : K = c.K) (h : Wp c tl ⟨sl, nn⟩ fun d n => LsI m d fun ds => Θ (ds.map D.py) n) : Wi c m (iList K tl) ⟨sl, nn⟩ Θ := ⟨fun σ A H o R k => by
  subst hK
  refine h.run σ A H o _ fun v H1 d n p e1 g1 x => ?_
  match d, p, x with
  | .py (.list ds), p, x =>
    have x0 : Da c.K A H1 v (.list ds) := x
    cases x0 with
    | lst na r t => exact ⟨_, rfl, ⟨_, .inl r⟩, k _ H1 _ n p e1 g1 (gv_list (fun a z => Mm.sub o a z) (fun H' kk => .inl ((kk.mono fun a z => Mm.sub o a z).rd na r)) t)⟩
    | lstK r t => exact ⟨_, rfl, ⟨_, r H1⟩, k _ H1 _ n p e1 g1 (gv_list (fun a z => Mm.sub o a z) (fun H' _ => r H') t)⟩
  | .mine (.lst ds), ⟨hm, p⟩, x =>
    obtain ⟨a, rfl, nS, _, xs, r, t⟩ := x
    refine ⟨a, rfl, ⟨xs, SqL.of r⟩, k _ H1 _ n p e1 g1 (gv_list (fun a z => Mm.sub o a z) (fun H' kk => SqL.of (kk a _ (fun z => ?_) r)) t)⟩
    rcases z with z | z
    · exact nS (c.hk a z)
    · rw [hm] at z; exact Bool.false_ne_true z.1⟩
theorem wi_tup {sl : List Slo} {nn : Nat} (hK : K = c.K) (h : Wp c tl ⟨sl, nn⟩ fun d n => Tp d fun ds => Θ (ds.map D.py) n) : Wi c m (iTup K tl) ⟨sl, nn⟩ Θ := ⟨fun σ A H o R k => by
  subst hK
  refine h.run σ A H o _ fun v H1 d n p e1 g1 x => ?_
  match d, p, x with
  | .py (.tuple ds), p, x =>
    have gv : ∀ {a : Addr} {xs : List V}, (∀ H', Kept (Mm c m σ ⟨sl, nn⟩) H1 H' → SqT c.K H' a xs) → DaL c.K A H1 xs ds → Gv c (Mm c m σ ⟨sl, nn⟩) A H1 (Itt c.K a) (ds.map D.py) := fun {a xs} st t =>
      ⟨fun H' i kk hi => by
        rw [List.length_map, ← t.len] at hi
        exact ⟨xs, xs[i], st H' kk, by simp [hi]⟩, fun H' i kk hi => by
        rw [List.length_map, ← t.len] at hi
        exact ⟨xs, st H' kk, hi⟩, fun H' i x H'' kk hi ⟨e1, y⟩ => by
        subst e1
        have hx := y xs (st _ kk)
        obtain ⟨d, h1, h2⟩ := t.got hx
        exact ⟨.py d, getm h1, .inl rfl, fun B w _ _ => Da.to (kk.mono fun a z => Mm.sub o a z) w h2⟩⟩
    have x0 : Da c.K A H1 v (.tuple ds) := x
    cases x0 with
    | tup na r t => exact ⟨_, rfl, ⟨_, .inl r⟩, k _ H1 _ n p e1 g1 (gv (fun H' kk => .inl ((kk.mono fun a z => Mm.sub o a z).rd na r)) t)⟩
    | tupK r t => exact ⟨_, rfl, ⟨_, r H1⟩, k _ H1 _ n p e1 g1 (gv (fun H' _ => r H') t)⟩⟩
/-- the numbers lo, lo + st, .. -/
def seqI (lo st : Int) (n : Nat) : List D := (List.range n).map fun (i : Nat) => D.py (.int (lo + (i : Int) * st))
theorem seqI_get {lo st : Int} {n i : Nat} (h : i < n) : (seqI lo st n)[i]? = some (D.py (.int (lo + (i : Int) * st))) := by
  unfold seqI
  rw [List.getElem?_map, List.getElem?_range h] <;> rfl
theorem seqI_len {lo st : Int} {n : Nat} : (seqI lo st n).length = n := by
  unfold seqI
  rw [List.length_map, List.length_range]
theorem seqI_of {lo st : Int} {n i : Nat} {d : D} (h : (seqI lo st n)[i]? = some d) : i < n ∧ d = D.py (.int (lo + (i : Int) * st)) := by
  have hi : i < n := by
    have := (List.getElem?_eq_some_iff.mp h).1
    rw [seqI_len] at this
    exact this
  rw [seqI_get hi] at h
  exact ⟨hi, (Option.some.inj h).symm⟩
theorem gv_rng {M A : Addr → Prop} {H : Hp} {lo : Int} {n : Nat} : Gv c M A H (Itr lo n) (seqI lo 1 n) :=
  ⟨fun H' i k hi => by rw [seqI_len] at hi; exact hi, fun H' i k hi => by rw [seqI_len] at hi; exact hi, fun H' i x H'' k hi ⟨e1, y⟩ => by
    subst e1 y
    rw [seqI_len] at hi
    refine ⟨_, seqI_get hi, .inl rfl, fun B _ _ _ => ?_⟩
    have q : lo + (i : Int) * 1 = lo + (i : Int) := by rw [Int.mul_one]
    rw [q]
    exact .int _⟩
theorem gv_rngc {M A : Addr → Prop} {H : Hp} {lo st : Int} {n : Nat} : Gv c M A H (Itc lo st n) (seqI lo st n) :=
  ⟨fun H' i k hi => by rw [seqI_len] at hi; exact hi, fun H' i k hi => by rw [seqI_len] at hi; exact hi, fun H' i x H'' k hi ⟨e1, y⟩ => by
    subst e1 y
    rw [seqI_len] at hi
    exact ⟨_, seqI_get hi, .inl rfl, fun B _ _ _ => .int _⟩⟩
theorem wi_rng1 {sl : List Slo} {nn : Nat} (h : Wa c ta ⟨sl, nn⟩ fun ds n => One ds fun d => Id1 d fun j => -(2 ^ 62) ≤ j ∧ j < 2 ^ 62 ∧ Θ (seqI 0 1 j.toNat) n) : Wi c m (iRng1 ta) ⟨sl, nn⟩ Θ := ⟨fun σ A H o R k => by
  refine h.run σ A H o _ fun vs H1 ds n p e1 g1 x => ?_
  obtain ⟨v, d, rfl, x, p⟩ := one_of p x
  obtain ⟨j, rfl, h1, h2, q⟩ := id1 p x
  exact ⟨j, rfl, h1, h2, k _ H1 _ n q e1 g1 gv_rng⟩⟩
theorem wi_rng2 {sl : List Slo} {nn : Nat} (h : Wa c ta ⟨sl, nn⟩ fun ds n => Two ds fun d u => Id2 d u fun i j => -(2 ^ 62) ≤ i ∧ i < 2 ^ 62 ∧ -(2 ^ 62) ≤ j ∧ j < 2 ^ 62 ∧ Θ (seqI i 1 (j - i).toNat) n) : Wi c m (iRng2 ta) ⟨sl, nn⟩ Θ := ⟨fun σ A H o R k => by
  refine h.run σ A H o _ fun vs H1 ds n p e1 g1 x => ?_
  obtain ⟨v, w, d, u, rfl, x1, x2, p⟩ := two_of p x
  obtain ⟨i, j, rfl, rfl, h1, h2, h3, h4, q⟩ := id2 p x1 x2
  exact ⟨i, j, rfl, ⟨h1, h2, h3, h4⟩, k _ H1 _ n q e1 g1 gv_rng⟩⟩
def Id3 (ds : List D) (k : Int → Int → Int → Prop) : Prop := match ds with
  | [.py (.int i), .py (.int j), .py (.int l)] => k i j l
  | _ => False
theorem id3 {A : Addr → Prop} {H : Hp} {vs : List V} {ds : List D} {k : Int → Int → Int → Prop} (p : Id3 ds k) (x : DXs c A H vs ds) : ∃ i j l, vs = [.int i, .int j, .int l] ∧ k i j l := by
  match vs, ds, p, x with
  | [v, w, u], [.py (.int i), .py (.int j), .py (.int l)], p, ⟨h1, h2, h3, _⟩ =>
    cases Da.int_eq h1
    cases Da.int_eq h2
    cases Da.int_eq h3
    exact ⟨i, j, l, rfl, p⟩
  | [], [.py (.int i), .py (.int j), .py (.int l)], p, h => exact h.elim
  | [v], [.py (.int i), .py (.int j), .py (.int l)], p, ⟨_, h⟩ => exact h.elim
  | [v, w], [.py (.int i), .py (.int j), .py (.int l)], p, ⟨_, _, h⟩ => exact h.elim
  | _ :: _ :: _ :: _ :: _, [.py (.int i), .py (.int j), .py (.int l)], p, ⟨_, _, _, h⟩ => exact h.elim
theorem wi_rng3 {sl : List Slo} {nn : Nat} (h : Wa c ta ⟨sl, nn⟩ fun ds n => Id3 ds fun i j l => ∃ z, RgC i j l z ∧ Θ (seqI i l z) n) : Wi c m (iRng3 ta) ⟨sl, nn⟩ Θ := ⟨fun σ A H o R k => by
  refine h.run σ A H o _ fun vs H1 ds n p e1 g1 x => ?_
  obtain ⟨i, j, l, rfl, z, hz, q⟩ := id3 p x
  exact ⟨i, j, l, z, rfl, hz, k _ H1 _ n q e1 g1 gv_rngc⟩⟩
end
/-! ## loops -/
section
variable {c : Cy} {e : En} {P : Po} {tb : TS} {g : TG} {wi : TI} {tc : TT}
theorem ws_for {sl : List Slo} {nn : Nat} (js : List Nat) (h : Wi c true wi ⟨sl, nn⟩ fun its n => ∃ I : Nat → En → Prop, I 0 ⟨sl, n⟩ ∧ (∀ i d e1, its[i]? = some d → I i e1 → Wg c g js d e1 fun e2 => Ws c tb e2 ⟨I (i + 1), P.rt, P.nx, I (i + 1)⟩) ∧ ∀ e1, I its.length e1 → P.nx e1) : Ws c (tFor wi g tb) ⟨sl, nn⟩ P := ⟨fun σ A H o Dn nx rt bk ct => by
  refine h.run σ A H o _ fun J H1 its n p e1 g1 gv => ?_
  obtain ⟨I, i0, is, iz⟩ := p
  have o1 := o.keep e1 g1
  refine ⟨fun i m σ' H' => m = its.length - i ∧ i ≤ its.length ∧ ∃ A' e', I i e' ∧ Kp c σ ⟨sl, nn⟩ H H' ∧ Kp c σ ⟨sl, nn⟩ H1 H' ∧ (∀ a, ownA σ' e'.sl a → ownA σ sl a ∨ H a = none) ∧ (∀ a, ownA σ' e'.sl a → ownA σ sl a ∨ H1 a = none) ∧ Ok c A' H' σ' e', ⟨its.length, rfl, Nat.zero_le _, A, ⟨sl, n⟩, i0, Kp.ek e1, Kept.refl, fun a z => .inl z, fun a z => .inl z, o1⟩, ?_⟩
  rintro i m σ' H' ⟨rfl, hi, A', e', hI, kp, kp1, w, w1, o'⟩
  have hM : Kept (Mm c true σ ⟨sl, nn⟩) H1 H' := kp1.mono fun a z => z.elim .inl fun q => .inr ⟨rfl, q⟩
  by_cases hl : i < its.length
  · right
    refine ⟨gv.go H' i hM hl, fun σ2 H2 => i + 1 ≤ its.length ∧ ∃ A2 e2, I (i + 1) e2 ∧ Kp c σ ⟨sl, nn⟩ H H2 ∧ Kp c σ ⟨sl, nn⟩ H1 H2 ∧ (∀ a, ownA σ2 e2.sl a → ownA σ sl a ∨ H a = none) ∧ (∀ a, ownA σ2 e2.sl a → ownA σ sl a ∨ H1 a = none) ∧ Ok c A2 H2 σ2 e2,
      fun σ2 H2 ⟨q1, q2⟩ => ⟨its.length - (i + 1), by omega, rfl, q1, q2⟩, fun x H'' y => ?_⟩
    obtain ⟨d, hd, st, dx⟩ := gv.yld H' i x H'' hM hl y
    have oB : Ok c (Av c σ' e'.sl) H' σ' e' := o'.less o'.sub fun a z => z
    have ks : Ek c H' H'' := st.kept
    have gs : Good c e'.n H'' := st.good o'.good
    have o2 : Ok c (Av c σ' e'.sl) H'' σ' e' := oB.keep ks gs
    have dd := dx (Av c σ' e'.sl) (fun a z => z.elim (fun z => .inl (o.sub a (.inl z))) fun z => (w1 a z).elim (fun q => .inl (o.sub a (.inr q))) .inr) oB.al fun a z => .inl z
    refine (is i d e' hd hI).run σ' _ H'' x o2 dd _ fun σ2 e2 ws o3 _ wo => ?_
    have kp2 : Kp c σ ⟨sl, nn⟩ H H'' := fun a u nn q => st.kept (S := fun _ => False) a u (fun z => z) (kp a u nn q)
    have kp3 : Kp c σ ⟨sl, nn⟩ H1 H'' := fun a u nn q => st.kept (S := fun _ => False) a u (fun z => z) (kp1 a u nn q)
    have w2 : ∀ a, ownA σ2 e2.sl a → ownA σ sl a ∨ H a = none := fun a z => w a (wo a z)
    have w3 : ∀ a, ownA σ2 e2.sl a → ownA σ sl a ∨ H1 a = none := fun a z => w1 a (wo a z)
    have trn : ∀ {σ3 : St} {A3 : Addr → Prop} {H3 : Hp} {e3 : En}, I (i + 1) e3 → Kp c σ2 e2 H'' H3 → (∀ a, ownA σ3 e3.sl a → ownA σ2 e2.sl a ∨ H'' a = none) → Ok c A3 H3 σ3 e3 →
        i + 1 ≤ its.length ∧ ∃ A2 e2, I (i + 1) e2 ∧ Kp c σ ⟨sl, nn⟩ H H3 ∧ Kp c σ ⟨sl, nn⟩ H1 H3 ∧ (∀ a, ownA σ3 e2.sl a → ownA σ sl a ∨ H a = none) ∧ (∀ a, ownA σ3 e2.sl a → ownA σ sl a ∨ H1 a = none) ∧ Ok c A2 H3 σ3 e2 := fun {σ3 A3 H3 e3} q a w4 o4 =>
      ⟨hl, A3, e3, q, kp2.trans w2 a, kp3.trans w3 a, fun x z => (w4 x z).elim (w2 x) fun y => own_back (e1 := e') o gs kp2 (.inr y), fun x z => (w4 x z).elim (w3 x) fun y => own_back (e1 := e') (o.keep e1 g1) gs kp3 (.inr y), o4⟩
    exact ws.run σ2 _ H'' o3 _ (fun σ3 A3 H3 e3 q a w4 o4 => trn q a w4 o4) (rt.after kp2 w2) (nx.after o kp2 w2 o3) (fun σ3 A3 H3 e3 q a w4 o4 => trn q a w4 o4)
  · left
    have q : i = its.length := by omega
    subst q
    exact ⟨gv.stop H' _ hM (Nat.le_refl _), nx σ' A' H' e' (iz e' hI) kp w o'⟩⟩
theorem ws_while {sl : List Slo} {nn : Nat} (I : Nat → En → Prop) (h0 : ∃ m, I m ⟨sl, nn⟩) (h : ∀ m e1, I m e1 → Wt c tc e1 fun b n => (b = true → Ws c tb ⟨e1.sl, n⟩ ⟨fun e2 => ∃ m', m' < m ∧ I m' e2, P.rt, P.nx, fun e2 => ∃ m', m' < m ∧ I m' e2⟩) ∧ (b = false → P.nx ⟨e1.sl, n⟩)) : Ws c (tWhile tc tb) ⟨sl, nn⟩ P := ⟨fun σ A H o Dn nx rt bk ct => by
  obtain ⟨m0, i0⟩ := h0
  refine ⟨fun m σ' H' => ∃ A' e', I m e' ∧ Kp c σ ⟨sl, nn⟩ H H' ∧ (∀ a, ownA σ' e'.sl a → ownA σ sl a ∨ H a = none) ∧ Ok c A' H' σ' e', ⟨m0, A, ⟨sl, nn⟩, i0, Kept.refl, fun a z => .inl z, o⟩, ?_⟩
  rintro m σ' H' ⟨A', e', hI, kp, w, o'⟩
  refine (h m e' hI).run σ' A' H' o' _ fun b H1 n p e1 g1 => ?_
  have o1 := o'.keep e1 g1
  have kp1 : Kp c σ ⟨sl, nn⟩ H H1 := kp.trans w (Kp.ek e1)
  have nx1 := nx.after (σ1 := σ') (e1 := ⟨e'.sl, n⟩) o kp1 w o1
  have rt1 := rt.after (σ1 := σ') (e1 := ⟨e'.sl, n⟩) kp1 w
  cases b with
  | false => exact iteF (nx1 σ' A' H1 ⟨e'.sl, n⟩ (p.2 rfl) Kept.refl (fun a z => .inl z) o1)
  | true =>
    refine iteT ⟨fun σ2 H2 => ∃ m', m' < m ∧ ∃ A2 e2, I m' e2 ∧ Kp c σ ⟨sl, nn⟩ H H2 ∧ (∀ a, ownA σ2 e2.sl a → ownA σ sl a ∨ H a = none) ∧ Ok c A2 H2 σ2 e2, fun σ2 H2 ⟨m', l, q⟩ => ⟨m', l, q⟩, ?_⟩
    have back : ∀ (σ3 : St) (A3 : Addr → Prop) (H3 : Hp) (e3 : En), (∃ m', m' < m ∧ I m' e3) → Kp c σ' ⟨e'.sl, n⟩ H1 H3 → (∀ a, ownA σ3 e3.sl a → ownA σ' e'.sl a ∨ H1 a = none) → Ok c A3 H3 σ3 e3 →
        ∃ m', m' < m ∧ ∃ A2 e2, I m' e2 ∧ Kp c σ ⟨sl, nn⟩ H H3 ∧ (∀ a, ownA σ3 e2.sl a → ownA σ sl a ∨ H a = none) ∧ Ok c A2 H3 σ3 e2 := fun σ3 A3 H3 e3 ⟨m', l, q⟩ a w4 o4 =>
      ⟨m', l, A3, e3, q, kp1.trans w a, fun x z => (w4 x z).elim (w x) fun y => own_back (e1 := ⟨e'.sl, n⟩) o g1 kp1 (.inr y), o4⟩
    exact (p.1 rfl).run σ' A' H1 o1 _ back rt1 nx1 back⟩
end
/-! ## comprehensions -/
def wipeE (e : List Slo) : List Nat → List Slo
  | [] => e
  | v :: vs => (wipeE e vs).set v .emp
section
variable {c : Cy} {e : En} {A : Addr → Prop} {H : Hp} {σ : St}
theorem wipeE_len : ∀ {vs : List Nat}, (wipeE e.sl vs).length = e.sl.length
  | [] => rfl
  | v :: vs => by show ((wipeE e.sl vs).set v .emp).length = _; rw [List.length_set, wipeE_len]
theorem wipe_own : ∀ {vs : List Nat} {a : Addr}, ownA (wipe σ vs) (wipeE e.sl vs) a → ownA σ e.sl a
  | [], _, h => h
  | v :: vs, a, h => wipe_own (vs := vs) (own_emp (e := ⟨wipeE e.sl vs, 0⟩) h)
theorem Ok.wipes (o : Ok c A H σ e) : ∀ {vs : List Nat}, (∀ v ∈ vs, v < e.sl.length) → Ok c A H (wipe σ vs) ⟨wipeE e.sl vs, e.n⟩
  | [], _ => o
  | v :: vs, h => Ok.wipe1 (e := ⟨wipeE e.sl vs, e.n⟩) (Ok.wipes o fun x z => h x (List.mem_cons_of_mem _ z)) (by show v < (wipeE e.sl vs).length; rw [wipeE_len]; exact h v List.mem_cons_self)
theorem wipe_get : ∀ {vs : List Nat} {i : Nat}, (wipe σ vs)[i]? = if i ∈ vs ∧ i < σ.length then some none else σ[i]?
  | [], i => by simp [wipe]
  | v :: vs, i => by
    have lw : ∀ us : List Nat, (wipe σ us).length = σ.length := fun us => by
      induction us with
      | nil => rfl
      | cons u us ih => show ((wipe σ us).set u none).length = _; rw [List.length_set, ih]
    show ((wipe σ vs).set v none)[i]? = _
    rw [List.getElem?_set]
    by_cases q : v = i
    · subst q
      rw [if_pos rfl, lw]
      by_cases l : v < σ.length
      · rw [if_pos l, if_pos ⟨List.mem_cons_self, l⟩]
      · rw [if_neg l, if_neg fun z => l z.2, List.getElem?_eq_none (by omega)]
    · rw [if_neg q, wipe_get]
      simp [List.mem_cons, Ne.symm q]
theorem wipe_apt {σ2 : St} {vs : List Nat} (h : Apt vs (wipe σ vs) σ2) : wipe σ2 vs = wipe σ vs := by
  have lw : ∀ (τ : St) (us : List Nat), (wipe τ us).length = τ.length := fun τ us => by
    induction us with
    | nil => rfl
    | cons u us ih => show ((wipe τ us).set u none).length = _; rw [List.length_set, ih]
  have hl : σ2.length = σ.length := by rw [h.1, lw]
  refine List.ext_getElem? fun i => ?_
  rw [wipe_get, wipe_get]
  by_cases q : i ∈ vs ∧ i < σ.length
  · rw [if_pos q, if_pos (by rw [hl]; exact q)]
  · rw [if_neg q, if_neg (by rw [hl]; exact q)]
    by_cases z : i ∈ vs
    · have l : ¬ i < σ.length := fun l => q ⟨z, l⟩
      rw [List.getElem?_eq_none (by omega), List.getElem?_eq_none (by omega)]
    · rw [h.2 i z, wipe_get, if_neg q]
def Py1 (d : D) (k : PyData → Prop) : Prop := match d with
  | .py p => k p
  | _ => False
theorem wn_lc {sl : List Slo} {nn : Nat} {wi : TI} {g : TG} {tt : TT} {te : TE} {vs : List Nat} {Ψ : Ow → Nat → Prop} (hv : ∀ v ∈ vs, v < sl.length)
    (h : Wi c false wi ⟨sl, nn⟩ fun its n => ∃ I : Nat → List PyData → Nat → Prop, I 0 [] n ∧ its.length < 10000000 ∧
      (∀ i acc m d, its[i]? = some d → I i acc m → Wg c g vs d ⟨wipeE sl vs, m⟩ fun e2 => Wt c tt e2 fun b m2 => (b = true → Wp c te ⟨e2.sl, m2⟩ fun d' m3 => Py1 d' fun p => I (i + 1) (acc ++ [p]) m3) ∧ (b = false → I (i + 1) acc m2)) ∧
      ∀ acc m, I its.length acc m → Ψ (.lst acc) m) : Wn c (tLc wi g tt te vs) ⟨sl, nn⟩ Ψ := ⟨fun σ A H o Q k => by
  refine h.run σ A H o _ fun J H1 its n p e1 g1 gv D hD => ?_
  obtain ⟨I, i0, il, is, iz⟩ := p
  have o1 := o.keep e1 g1
  have oD : ∀ (m : Nat), Good c m H1 → Ok c (fun a => A a ∨ a = D) (upd H1 D (.lst [])) (wipe σ vs) ⟨wipeE sl vs, m⟩ := fun m gm => by
    have ow := (o1.keep (n := m) Ek.refl gm).wipes (vs := vs) hv
    refine ⟨ow.len, gm.new hD, fun a z => .inl (ow.sub a z), fun a z => ?_, fun i d z => ?_, fun i ds z => ?_, ow.sep⟩
    · by_cases q : a = D
      · rw [q, upd_same]; exact fun w => nomatch w
      · rw [upd_ne q]; exact ow.al a (z.elim id fun w => absurd w q)
    · obtain ⟨nm, v, h1, h2⟩ := ow.val i d z
      exact ⟨nm, v, h1, (h2.apart hD).keep (Ek.new hD) fun a w => .inl (o.k a w)⟩
    · obtain ⟨b, h1, h3, h4⟩ := ow.own i ds z
      exact ⟨b, h1, (h3.apart hD).keep (Ek.kept (Ek.new hD) fun a w => .inl (o.k a w)) fun u r => by rw [upd_ne (ne_of_none r hD)]; exact r, h4⟩
  refine ⟨fun i m H' => m = its.length - i ∧ i ≤ its.length ∧ ∃ acc xs nn, I i acc nn ∧ acc.length ≤ i ∧ H' D = some (.lst xs) ∧ DaL c.K (fun a => A a ∨ a = D) H' xs acc ∧ Ok c (fun a => A a ∨ a = D) H' (wipe σ vs) ⟨wipeE sl vs, nn⟩ ∧ Ek c H1 H' ∧ Good c nn H',
    ⟨its.length, rfl, Nat.zero_le _, [], [], n, i0, Nat.le_refl _, upd_same, .nil, oD n g1, Ek.new hD, g1.new hD⟩, ?_⟩
  rintro i m H' ⟨rfl, hi, acc, xs, nn, hI, hac, hDx, t, o', ek, gn⟩
  have hM : Kept (Mm c false σ ⟨sl, nn⟩) H1 H' := ek.mono fun a z => .inl z
  by_cases hl : i < its.length
  · right
    refine ⟨gv.go H' i hM hl, fun H2 => i + 1 ≤ its.length ∧ ∃ acc xs nn, I (i + 1) acc nn ∧ acc.length ≤ i + 1 ∧ H2 D = some (.lst xs) ∧ DaL c.K (fun a => A a ∨ a = D) H2 xs acc ∧ Ok c (fun a => A a ∨ a = D) H2 (wipe σ vs) ⟨wipeE sl vs, nn⟩ ∧ Ek c H1 H2 ∧ Good c nn H2,
      fun H2 ⟨q1, q2⟩ => ⟨its.length - (i + 1), by omega, rfl, q1, q2⟩, fun x H'' y => ?_⟩
    obtain ⟨d, hd, st, dx⟩ := gv.yld H' i x H'' hM hl y
    have ks : Ek c H' H'' := st.kept
    have gs : Good c nn H'' := st.good gn
    have o2 := o'.keep ks gs
    have dd := dx (fun a => A a ∨ a = D) (fun a z => z.elim .inl fun q => .inr (by rw [q]; exact hD)) o'.al fun a z => .inl (o.sub a (.inl z))
    refine (is i acc nn d hd hI).run _ _ H'' x o2 dd _ fun σ2 e2 wt o3 ap wo => ?_
    refine ⟨wipe_apt ap, wt.run σ2 _ H'' o3 _ fun b H3 m2 p2 e3 g3 => ?_⟩
    have o4 := o3.keep e3 g3
    have nD : c.k ≠ some D := fun z => o1.al D (o.k D z) hD
    have d3 : H3 D = some (.lst xs) := e3 D _ nD (ks D _ nD hDx)
    have back : ∀ {H4 : Hp} {m3 : Nat}, Ek c H'' H4 → Good c m3 H4 → Ok c (fun a => A a ∨ a = D) H4 (wipe σ vs) ⟨wipeE sl vs, m3⟩ := fun {H4 m3} ee gg => (o2.keep ee gg)
    cases b with
    | false =>
      refine iteF ⟨hl, acc, xs, m2, p2.2 rfl, by omega, d3, (t.keep (Ek.kept ks o'.k)).keep (Ek.kept e3 o'.k), back e3 g3, (ek.trans ks).trans e3, g3⟩
    | true =>
      refine iteT ((p2.1 rfl).run σ2 _ H3 o4 _ fun v H4 d' m3 p3 e4 g4 xv => ?_)
      match d', p3, xv with
      | .py pp, p3, xv =>
        have d4 : H4 D = some (.lst xs) := e4 D _ nD d3
        have tx : DaL c.K (fun a => A a ∨ a = D) H4 xs acc := ((t.keep (Ek.kept ks o'.k)).keep (Ek.kept e3 o'.k)).keep (Ek.kept e4 o'.k)
        have kA : Kept (fun a => A a ∨ a = D) H4 (upd H4 D (.lst (xs ++ [v]))) := fun a u nn q => by rw [upd_ne fun z => nn (.inr z)]; exact q
        have o5 := back (e3.trans e4) g4
        have g5 : Good c m3 (upd H4 D (.lst (xs ++ [v]))) := ⟨fun b z => by
          by_cases q : b = D
          · rw [q, upd_same]; exact fun w => nomatch w
          · rw [upd_ne q]; exact g4.al b z, fun b z => by
          rw [upd_ne fun q => nD (by rw [← q]; exact z)]; exact g4.kl b z⟩
        refine ⟨xs, d4, by rw [tx.len]; exact Nat.lt_of_le_of_lt hac (Nat.lt_of_lt_of_le (Nat.lt_trans hl il) (by decide)), hl, acc ++ [pp], xs ++ [v], m3, p3, by rw [List.length_append]; show acc.length + 1 ≤ i + 1; omega, upd_same, (tx.append (.cons xv .nil)).keep kA, ?_, ?_, g5⟩
        · refine ⟨o5.len, g5, o5.sub, fun a z => ?_, fun j w z => ?_, fun j es z => ?_, o5.sep⟩
          · by_cases q : a = D
            · rw [q, upd_same]; exact fun w => nomatch w
            · rw [upd_ne q]; exact o5.al a z
          · obtain ⟨nm, y, y1, y2⟩ := o5.val j w z
            refine ⟨nm, y, y1, ?_⟩
            cases w with
            | py p => exact Da.keep kA y2
            | mine ds => cases nm
            | dct es =>
              obtain ⟨b, kvs, w1, w2, w3, w4⟩ := y2
              exact ⟨b, kvs, w1, w2, kA b _ w2 w3, w4.keep kA⟩
            | dcl es =>
              obtain ⟨b, kvs, od, w1, w2, w3, w4⟩ := y2
              exact ⟨b, kvs, od, w1, w2, kA b _ w2 w3, w4.keep kA⟩
            | brw es =>
              obtain ⟨b, ys, w1, w2, w3, w4, w5⟩ := y2
              exact ⟨b, ys, w1, w2, w3, by rw [upd_ne fun z => o1.good.al b w3 (by rw [z]; exact hD)]; exact w4, w5.keep kA⟩
            | ins C fs =>
              obtain ⟨b, dx, vs, w1, w2, w3, w4⟩ := y2
              exact ⟨b, dx, vs, w1, w2, kA b _ w2 w3, w4.keep kA⟩
            | atom w => exact y2
            | kln => exact y2
            | lsx =>
              obtain ⟨b, ys, w1, w2, w3⟩ := y2
              exact ⟨b, ys, w1, w2, kA b _ w2 w3⟩
          · obtain ⟨b, y1, y3, y4⟩ := o5.own j es z
            have ob : ownA σ sl b := wipe_own (e := ⟨sl, nn⟩) ⟨j, es, z, y1⟩
            exact ⟨b, y1, y3.keep kA fun u r => by rw [upd_ne fun q => o1.al D (by rw [← q]; exact o.sub b (.inr ob)) hD]; exact r, y4⟩
        · refine fun a u nn q => ?_
          rw [upd_ne (ne_of_none q hD)]
          exact e4 a u nn (e3 a u nn (ks a u nn (ek a u nn q)))
  · left
    have q : i = its.length := by omega
    subst q
    exact ⟨gv.stop H' _ hM (Nat.le_refl _), k D H' _ nn (iz acc nn hI) (e1.trans ek) gn (fresh_of e1 g1 hD) ⟨xs, hDx, t⟩⟩⟩
end
/-! ## calls -/
def arg : D → D
  | .mine (.lst ds) => .brw ds
  | d => d
def argOk : D → Bool
  | .mine (.lst _) => true
  | .mine _ => false
  | _ => true
def SpF (K : PySem.W.Frag) (pre : List D → Nat → Prop) (post : List D → Nat → D → Nat → Prop) : Sp := fun vs H Q _ =>
  ∃ (c : Cy) (n : Nat) (ds : List D), c.K = K ∧ Good c n H ∧ DXs c c.S0 H vs ds ∧ pre ds n ∧ ∀ (v : V) (H' : Hp) (d : D) (m : Nat), post ds n d m → Ek c H H' → Good c m H' → DX c c.S0 H' v d → Q v H'
section
variable {c : Cy} {e : En} {Φ : D → Nat → Prop}
/-- a callee's context: what the caller keeps apart -/
def Cy.at_ (c : Cy) (A : Addr → Prop) (h : ∀ a, c.k = some a → A a) : Cy := ⟨c.K, c.k, A, h⟩
theorem dx_arg {A : Addr → Prop} {H : Hp} {n : Nat} (a : At c A n H) {v : V} {d : D} (ok : argOk d = true) (x : DX c A H v d) : DX (c.at_ A a.k) A H v (arg d) := by
  cases d with
  | mine w =>
    cases w with
    | lst ds => obtain ⟨b, rfl, nS, hA, xs, r, t⟩ := x; exact ⟨b, xs, rfl, fun z => nS (c.hk b z), hA, r, t⟩
    | _ => cases ok
  | dct ds => exact x
  | dcl ds => exact x
  | py p => exact x
  | brw ds => obtain ⟨b, xs, rfl, nk, hS, r, t⟩ := x; exact ⟨b, xs, rfl, nk, a.s b hS, r, t⟩
  | ins C fs => exact x
  | atom w => exact x
  | kln => exact x
  | lsx => exact x
theorem dxs_arg {A : Addr → Prop} {H : Hp} {n : Nat} (a : At c A n H) : ∀ {vs : List V} {ds : List D}, ds.all argOk = true → DXs c A H vs ds → DXs (c.at_ A a.k) A H vs (ds.map arg)
  | [], [], _, _ => True.intro
  | v :: vs, d :: ds, k, ⟨h, t⟩ => by
    rw [List.all_cons, Bool.and_eq_true] at k
    exact ⟨dx_arg a k.1 h, dxs_arg a k.2 t⟩
  | [], _ :: _, _, h => h.elim
  | _ :: _, [], _, h => h.elim
/-- results that a caller may have -/
def outD : D → Bool
  | .mine _ => false
  | .brw _ => false
  | _ => true
theorem dx_out {A : Addr → Prop} {H : Hp} {h : ∀ a, c.k = some a → A a} {v : V} {d : D} (o : outD d = true) (x : DX (c.at_ A h) A H v d) : DX c A H v d := by
  cases d with
  | mine ds => cases o
  | brw ds => cases o
  | dct ds => exact x
  | dcl ds => exact x
  | py p => exact x
  | ins C fs => exact x
  | atom w => exact x
  | kln => exact x
  | lsx => exact x
theorem sp_run {K : PySem.W.Frag} {pre : List D → Nat → Prop} {post : List D → Nat → D → Nat → Prop} {A : Addr → Prop} {H : Hp} {n : Nat} {vs : List V} {ds : List D} {E : XK} {Q : VK} (hK : K = c.K) (a : At c A n H) (x : DXs c A H vs ds) (ka : ds.all argOk = true) (hp : pre (ds.map arg) n)
    (hq : ∀ d m, post (ds.map arg) n d m → outD d = true ∧ Φ d m) (k : ∀ v H2 d m, Φ d m → Ek c H H2 → Good c m H2 → DX c A H2 v d → Q v H2) : SpF K pre post vs H Q E := by
  subst hK
  exact ⟨c.at_ A a.k, n, ds.map arg, rfl, ⟨a.al, a.good.kl⟩, dxs_arg a ka x, hp, fun v H' d m q ek g y => k v H' d m (hq d m q).2 ek ⟨fun b z => g.al b (a.s b z), g.kl⟩ (dx_out (hq d m q).1 y)⟩
theorem wp_call {sl : List Slo} {nn : Nat} {K : PySem.W.Frag} {pre : List D → Nat → Prop} {post : List D → Nat → D → Nat → Prop} {E : XK} {ta : TA} (hK : K = c.K) (h : Wa c ta ⟨sl, nn⟩ fun ds n => ds.all argOk = true ∧ pre (ds.map arg) n ∧ ∀ d m, post (ds.map arg) n d m → outD d = true ∧ Φ d m) : Wp c (tCall (SpF K pre post) [] E ta) ⟨sl, nn⟩ Φ := ⟨fun σ A H o Q k => by
  refine h.run σ A H o _ fun vs H1 ds n p e1 g1 x => ?_
  have o1 := o.keep e1 g1
  rw [List.append_nil]
  exact sp_run hK o1.at_ x p.1 p.2.1 p.2.2 fun v H2 d m q e2 g2 y => k v H2 d m q (e1.trans e2) g2 y⟩
end
/-! ## defs -/
def Slo.of : List D → List Slo := List.map Slo.val
theorem start_ok {c : Cy} {H : Hp} {n : Nat} {vs : List V} {ds : List D} {N : List Str} (g : Good c n H) (x : DXs c c.S0 H vs ds) (nm : ds.all D.nm = true) : Ok c c.S0 H (L2.start N vs) ⟨Slo.of ds ++ List.replicate (N.length - ds.length) .emp, n⟩ := by
  have hl := x.len
  have noown : ∀ (i : Nat) (es : Ow), (Slo.of ds ++ List.replicate (N.length - ds.length) Slo.emp)[i]? ≠ some (Slo.own es) := fun i es z => by
    by_cases hi : i < ds.length
    · rw [List.getElem?_append_left (by unfold Slo.of; rw [List.length_map]; exact hi)] at z
      unfold Slo.of at z
      rw [List.getElem?_map, List.getElem?_eq_getElem hi] at z
      cases z
    · rw [List.getElem?_append_right (by unfold Slo.of; rw [List.length_map]; omega), List.getElem?_replicate] at z
      split at z <;> cases z
  refine ⟨?_, g, fun a z => ?_, g.al, fun i d z => ?_, fun i es z => absurd z (noown i es), fun i j es fs a z => absurd z (noown i es)⟩
  · unfold L2.start Slo.of
    simp only [List.length_append, List.length_map, List.length_replicate]
    rw [hl]
  · rcases z with z | ⟨i, es, z, _⟩
    · exact z
    · exact absurd z (noown i es)
  · by_cases hi : i < ds.length
    · have z' : (Slo.of ds)[i]? = some (Slo.val d) := by
        rw [← z]
        exact (List.getElem?_append_left (by unfold Slo.of; rw [List.length_map]; exact hi)).symm
      unfold Slo.of at z'
      rw [List.getElem?_map] at z'
      have hd : ds[i]? = some d := by
        cases q : ds[i]? with
        | none => rw [q] at z'; cases z'
        | some u => rw [q] at z'; cases z'; rfl
      have get : ∀ {ws : List V} {us : List D} {i : Nat} {d : D}, DXs c c.S0 H ws us → us[i]? = some d → ∃ v, ws[i]? = some v ∧ DX c c.S0 H v d := by
        intro ws
        induction ws with
        | nil =>
          intro us i d h q
          cases us with
          | nil => simp at q
          | cons _ _ => exact h.elim
        | cons w ws ih =>
          intro us i d h q
          cases us with
          | nil => exact h.elim
          | cons u us =>
            cases i with
            | zero =>
              simp at q
              subst q
              exact ⟨w, rfl, h.1⟩
            | succ i =>
              obtain ⟨v, h1, h2⟩ := ih h.2 (show us[i]? = some d by simpa using q)
              exact ⟨v, by simpa using h1, h2⟩
      obtain ⟨v, h1, h2⟩ := get x hd
      have hm : d.nm = true := List.all_eq_true.mp nm d (List.mem_of_getElem? hd)
      refine ⟨hm, v, ?_, h2⟩
      unfold L2.start
      rw [List.getElem?_append_left (by rw [List.length_map, hl]; exact hi), List.getElem?_map, h1] <;> rfl
    · have z' : (Slo.of ds ++ List.replicate (N.length - ds.length) Slo.emp)[i]? = some (Slo.val d) := z
      rw [List.getElem?_append_right (by unfold Slo.of; rw [List.length_map]; omega), List.getElem?_replicate] at z'
      split at z' <;> cases z'
section
variable {P : Program} {w : World} {K : PySem.W.Frag} {mg : Str → Option Value} {base : Heap}
/-- the reading of a body, told by data -/
theorem body_ok {N : List Str} {pre : List D → Nat → Prop} {post : List D → Nat → D → Nat → Prop} {t : TS} (hnm : ∀ ds n, pre ds n → ds.all D.nm = true)
    (rd : ∀ (c : Cy) (n : Nat) (ds : List D), c.K = K → pre ds n → Ws c t ⟨Slo.of ds ++ List.replicate (N.length - ds.length) .emp, n⟩ ⟨fun e => post ds n (.py .none) e.n, fun d m => post ds n d m, fun _ => False, fun _ => False⟩)
    (vs : List V) (H : Hp) (Q : VK) (E : XK) (h : SpF K pre post vs H Q E) : t { nx := fun _ H' => Q .non H', rt := Q } (L2.start N vs) H := by
  obtain ⟨c, n, ds, hK, g, x, hp, k⟩ := h
  have o := start_ok (N := N) g x (hnm ds n hp)
  have noown : ∀ a, ¬ ownA (L2.start N vs) (Slo.of ds ++ List.replicate (N.length - ds.length) Slo.emp) a := fun a ⟨i, es, z, _⟩ => by
    by_cases hi : i < ds.length
    · rw [List.getElem?_append_left (by unfold Slo.of; rw [List.length_map]; exact hi)] at z
      unfold Slo.of at z
      rw [List.getElem?_map, List.getElem?_eq_getElem hi] at z
      cases z
    · rw [List.getElem?_append_right (by unfold Slo.of; rw [List.length_map]; omega), List.getElem?_replicate] at z
      split at z <;> cases z
  refine (rd c n ds hK hp).run _ _ H o _ (fun σ' A' H' e' q kp _ o' => ?_) (fun v H' d m q kp g' x' => ?_) (fun _ _ _ _ q _ _ _ => q.elim) (fun _ _ _ _ q _ _ _ => q.elim)
  · exact k .non H' _ _ q (fun a u nn z => kp a u (fun y => y.elim nn fun y => noown a y) z) o'.good .non
  · exact k v H' d m q (fun a u nn z => kp a u (fun y => y.elim nn fun y => noown a y) z) g' x'
theorem sp_len {pre : List D → Nat → Prop} {post : List D → Nat → D → Nat → Prop} {m : Nat} (hl : ∀ ds n, pre ds n → ds.length = m) (vs : List V) (H : Hp) (Q : VK) (E : XK) (h : SpF K pre post vs H Q E) : vs.length = m := by
  obtain ⟨c, n, ds, hK, g, x, hp, k⟩ := h
  rw [x.len, hl ds n hp]
end
end Wx

/-! ### part Wt -/
set_option Elab.async false
set_option linter.all false
set_option maxRecDepth 100000
set_option maxHeartbeats 1000000
set_option autoImplicit false
/-! Helpers of the derivations; the rules once more, in the shape that a tactic applies. -/
namespace Wx
open PySem L2
/-! ## a def that stands at a global -/
structure Std (P : Program) (w : World) (K : PySem.W.Frag) (mg : Str → Option Value) (base : Heap) (k : Nat) (x : Str) (ps : List Str) (sp : Sp) : Prop where
  ex : ∃ f fd, FnOk P w K mg base CX0 k f fd ps sp ∧ mg x = some (.ref f) ∧ PySem.W.keepIn K (.ref f) = true ∧ Binds K fd ps []
def GInt (mg : Str → Option Value) (x : Str) (i : Int) : Prop := ∃ t, mg x = some (.int i t)
section
variable {X : Cx} {k : Nat} {x : Str} {ps : List Str} {sp : Sp} {e : Expr} {es : List Expr} {p pos : Pos} {t : TA}
theorem pe_std (F : Std X.prog X.w X.K X.mg X.base k x ps sp) (hr : Room k X.A) (hg : Gl X x) (ha : PA X (e :: es) t) (hdb : (x == ("__debug__" : Str)) = false := by decide)
    (he : starEach (e :: es) X.env = (false, eval e X.env) :: starEach es X.env := by rfl) (hpl : (backTo pos (starEach es X.env)).any (·.1) = false := by rfl) : PE X (.Call (.Name x p) (e :: es) [] pos) (tCall sp [] E0 t) := by
  obtain ⟨f, fd, h1, h2, h3, h4⟩ := F.ex
  exact pe_call h1 hr hg h2 h3 h4 .nil pass0 ha hdb he hpl
theorem pe_gint {i : Int} (h : GInt X.mg x i) (hg : Gl X x) (hd : (x == ("__debug__" : Str)) = false := by decide) : PE X (.Name x pos) (tC (.int i)) := by
  obtain ⟨t, h⟩ := h
  exact pe_glob hg h ⟨t, rfl⟩ hd
theorem room65 {A : Around} (hr : Room k A) : A.units + 65 < cLine := by have := hr.un; omega
theorem room64 {A : Around} (hr : Room k A) : A.units + 64 < cLine := by have := hr.un; omega
def rPOW : R2 := rI (fun i j => 2 ≤ i ∧ 1 ≤ j ∧ i < 2 ^ 600 ∧ j ≤ 60) fun i j => .int (i ^ j.toNat)
theorem opPOW : OpR X (binaryOp .Pow) rPOW := opI fun i j a b s H E hc q => by
  obtain ⟨h1, h2, h3, h4⟩ := hc
  have q1 : ¬(j == 0) = true := by rw [beq_iff_eq]; omega
  have q2 : ¬(i == 0 || i == 1) = true := by rw [Bool.or_eq_true, beq_iff_eq, beq_iff_eq]; omega
  have q3 : ¬(i == -1) = true := by rw [beq_iff_eq]; omega
  have b0 : Builtin.Int.intBits i ≤ 600 := by
    unfold Builtin.Int.intBits
    split
    · omega
    · have : i.natAbs.log2 < 600 := PySem.Flt.log2_lt_of (by decide) (by omega)
      omega
  refine AutoIntOps.pow_4 (by omega) q1 q2 q3 (fun z => ?_) q
  unfold Builtin.Int.intTooBig at z
  have z2 := of_decide_eq_true z
  have e : bitsLine = 134217728 := by decide
  rw [e] at z2
  have m1 : ((Builtin.Int.intBits i : Nat) : Int) * j ≤ 600 * 60 := Int.mul_le_mul (by omega) h4 (by omega) (by omega)
  omega
end

def rISN : R2 := fun x y H Q => y = .non ∧ Q (.bl (decide (x = .non))) H
def rNTN : R2 := fun x y H Q => y = .non ∧ Q (.bl (!decide (x = .non))) H
section
variable {X : Cx}
theorem opISN : OpR X (compareOp .Is) rISN := op_isN
theorem opNTN : OpR X (compareOp .IsNot) rNTN := op_notN
end
/-! ## the rules, the written part told -/
section
variable {X : Cx} {K : PySem.W.Frag}
theorem ixK (h : X.K = K) : IxR X (rIx K) := h ▸ ix_seq
theorem slK (h : X.K = K) : SlR X (rSL K) := h ▸ slSL
theorem addK (h : X.K = K) : OpR X (binaryOp .Add) (rADD K) := h ▸ opADD
theorem inK (h : X.K = K) (hu : X.A.units + 65 < cLine) : OpR X (compareOp .In) (rIN K) := h ▸ opIN hu
theorem niK (h : X.K = K) (hu : X.A.units + 65 < cLine) : OpR X (compareOp .NotIn) (rNI K) := h ▸ opNI hu
theorem eqK (h : X.K = K) (hu : X.A.units + 64 < cLine) : OpR X (compareOp .Eq) (rEqD K) := h ▸ op_eqD hu
theorem neK (h : X.K = K) (hu : X.A.units + 64 < cLine) : OpR X (compareOp .NotEq) (rNeD K) := h ▸ op_neD hu
theorem lenK (h : X.K = K) : CallR X (.builtin "len") (rLEN K) := h ▸ callLEN
theorem isiK (h : X.K = K) : CallR X (.builtin "isinstance") (rIsi K) := h ▸ call_isi
theorem allK (h : X.K = K) (hc : X.calm = true) : CallR X (.builtin "all") (rAll K) := h ▸ cr_all hc
theorem tupK (h : X.K = K) : CallR X (.type "tuple") (rTUPOF K) := h ▸ callTUPOF
theorem listK (h : X.K = K) : CallR X (.type "list") (rLISTOF K) := h ▸ callLISTOF
theorem truK {a : Expr} {ta : TE} (h : X.K = K) (ha : PE X a ta) (he : ∀ whole, isTrue a X.env whole = (do let v ← whole; standAt a.pos; holding [v] (truthy v))) : PT X a (fun σ H Q => ta σ H fun x H' => ∃ k, TruV K x H' k ∧ Q k H') := h ▸ pt_truth ha he
theorem gtupK {es : List Expr} {k : Nat} {t : TGs} {n : Nat} {pos : Pos} (e : X.K = K) (hc : X.calm = true) (h : PGs X es t) (hn : (assignEach es X.env).length = n := by rfl) (hst : (assignEach es X.env).findIdx? (·.1) = none := by rfl) : PG X (.Tuple es k pos) (gTup K n t) := e ▸ pg_tup hc h hn hst
theorem ilistK {tg l : Expr} {tl : TE} (h : X.K = K) (hl : PE X l tl) : PI X tg l (iList K tl) := h ▸ pi_list hl
theorem itupK {tg l : Expr} {tl : TE} (h : X.K = K) (hl : PE X l tl) : PI X tg l (iTup K tl) := h ▸ pi_tup hl
end
/-! ## marked stores -/
/-- x = a new object that is changed later -/
def tAsgO (te : TE) (g : TG) : TS := tAsg te g
def tParO (i j : Nat) (ta : TA) : TS := tPar i j ta
section
variable {X : Cx}
theorem ps_setO {pos : Pos} {i : Nat} {x : Str} {e : Expr} {te : TE} {pos' : Pos} (hN : X.N.Nodup) (hi : X.N[i]? = some x) (hx : Loc X.env.scope x) (he : PE X e te) (hs : swapsWith e (some (.Name x pos')) pos.line X.env = pure false := by rfl) (hf : X.fn x = true ∨ X.env.scope.names.lookup x = some .local := by first | exact .inl rfl | exact .inr rfl | assumption) :
    PS X (.Assign [.Name x pos'] e pos) (tAsgO te (gName i)) := ps_set hN hi hx he hs hf
theorem ps_asO {st : Stmt} {te : TE} {g : TG} (h : PS X st (tAsg te g)) : PS X st (tAsgO te g) := h
theorem ps_parO {st : Stmt} {i j : Nat} {ta : TA} (h : PS X st (tPar i j ta)) : PS X st (tParO i j ta) := h
theorem callALL (hc : X.calm = true) : CallR X (.builtin "all") (rAll X.K) := cr_all hc
end
section
variable {c : Cy} {e : En} {Φ : D → Nat → Prop} {Ψ : Ow → Nat → Prop} {ta tb te : TE} {n : Nat} {d1 d2 : D} {K : PySem.W.Frag} {P : Po}
theorem ws_setO {sl : List Slo} {nn : Nat} {i : Nat} (h : Wn c te ⟨sl, nn⟩ fun w n => P.nx ⟨sl.set i (.own w), n⟩) (hi : i < sl.length := by first | decide | (simp; done)) : Ws c (tAsgO te (gName i)) ⟨sl, nn⟩ P := ws_own h hi
theorem ws_parO {sl : List Slo} {nn : Nat} {i j : Nat} {te2 : TE} (h : Wn c te ⟨sl, nn⟩ fun w n => Wp c te2 ⟨sl, n⟩ fun d m => d.nm = true ∧ P.nx ⟨(sl.set i (.own w)).set j (.val d), m⟩) (hi : i < sl.length) (hj : j < sl.length) (hij : i ≠ j) :
    Ws c (tParO i j (tCons te (tCons te2 tNil))) ⟨sl, nn⟩ P := ws_parN h hi hj hij
theorem ws_never {sl : List Slo} {nn : Nat} (h : False) : Ws c tNever ⟨sl, nn⟩ P := h.elim
/-- a, b = x, y over a pair that is laid: the names read elsewhere -/
theorem ws_tup2 {sl : List Slo} {nn : Nat} {i j : Nat} (hK : K = c.K) (h : Wp c ta ⟨sl, nn⟩ fun d m => Wp c tb ⟨sl, m⟩ fun u m2 => d.nm = true ∧ u.nm = true ∧ P.nx ⟨(sl.set i (.val d)).set j (.val u), m2⟩) (hi : i < sl.length := by first | decide | (simp; done)) (hj : j < sl.length := by first | decide | (simp; done)) :
    Ws c (tAsg (tTup (tCons ta (tCons tb tNil))) (gTup K 2 (gCons (gName i) (gCons (gName j) gNil)))) ⟨sl, nn⟩ P := ⟨fun σ A H o Dn nx _ _ _ => by
  subst hK
  refine h.run σ A H o _ fun v H1 d m p e1 g1 x1 => ?_
  have o1 := o.keep e1 g1
  refine p.run σ A H1 o1 _ fun w H2 u m2 q e2 g2 x2 => ?_
  obtain ⟨n1, n2, q⟩ := q
  have o2 := o1.keep e2 g2
  have x1' := x1.keep e2 o.k
  refine ⟨by show 2 ≤ sizeLine; decide, fun p hp => ?_⟩
  have e3 : Ek c H2 (upd H2 p (.tup [v, w])) := Ek.new hp
  have g3 : Good c m2 (upd H2 p (.tup [v, w])) := g2.new hp
  have o3 := o2.keep e3 g3
  have o4 := (o3.set_ (v := v) hi n1 (x1'.keep e3 o.k)).set_ (i := j) (v := w) (by show j < (sl.set i _).length; rw [List.length_set]; exact hj) n2 (x2.keep e3 o.k)
  exact ⟨p, [v, w], rfl, .inl (.inl upd_same), rfl, v, [w], rfl, ⟨w, [], rfl, ⟨rfl, nx _ A _ _ q (Kp.ek ((e1.trans e2).trans e3)) (fun a z => .inl (own_set (e := ⟨sl, nn⟩) (own_set (e := ⟨sl.set i (.val d), m2⟩) z))) o4⟩⟩⟩⟩
/-- xs[::-1] -/
theorem DaL.rev {S : Addr → Prop} {H : Hp} : ∀ {xs : List V} {ds : List PyData}, DaL K S H xs ds → DaL K S H xs.reverse ds.reverse
  | _, _, .nil => .nil
  | _, _, .cons h t => by
    rw [List.reverse_cons, List.reverse_cons]
    exact (DaL.rev t).append (.cons h .nil)
theorem wn_rev {sl : List Slo} {nn : Nat} (hK : K = c.K) (h : Wp c te ⟨sl, nn⟩ fun d n => Ls d fun ds => Ψ (.lst ds.reverse) n) : Wn c (tRevL K te) ⟨sl, nn⟩ Ψ := ⟨fun σ A H o Q k => by
  subst hK
  refine h.run σ A H o _ fun v H1 d n p e1 g1 x => ?_
  obtain ⟨a, xs, ds, rfl, hs, t, q⟩ := ls_of p x
  exact ⟨a, xs, rfl, hs, fun r hr => k r _ _ n q (e1.trans (Ek.new hr)) (g1.new hr) (fresh_of e1 g1 hr) ⟨xs.reverse, upd_same, lay t.rev hr⟩⟩⟩
/-! ## small steps -/
theorem wp_cI {sl : List Slo} {nn : Nat} {i : Int} (q : Φ (.py (.int i)) nn) : Wp c (tC (.int i)) ⟨sl, nn⟩ Φ := wp_c rfl q
theorem wp_cB {sl : List Slo} {nn : Nat} {b : Bool} (q : Φ (.py (.bool b)) nn) : Wp c (tC (.bl b)) ⟨sl, nn⟩ Φ := wp_c rfl q
theorem wp_cS {sl : List Slo} {nn : Nat} {x : Str} (q : Φ (.py (.str x)) nn) : Wp c (tC (.str x)) ⟨sl, nn⟩ Φ := wp_c rfl q
theorem wp_cN {sl : List Slo} {nn : Nat} (q : Φ (.py .none) nn) : Wp c (tC .non) ⟨sl, nn⟩ Φ := wp_c rfl q
theorem id1_mk {i : Int} {k : Int → Prop} (h : k i) : Id1 (.py (.int i)) k := h
theorem id2_mk {i j : Int} {k : Int → Int → Prop} (h : k i j) : Id2 (.py (.int i)) (.py (.int j)) k := h
theorem bd_mk {b : Bool} {k : Bool → Prop} (h : k b) : Bd (.py (.bool b)) k := h
theorem td_none {k : Bool → Prop} (h : k false) : Td (.py .none) k := h
theorem td_bool {b : Bool} {k : Bool → Prop} (h : k b) : Td (.py (.bool b)) k := h
theorem td_int {i : Int} {k : Bool → Prop} (h : k (i != 0)) : Td (.py (.int i)) k := h
theorem td_list {ds : List PyData} {k : Bool → Prop} (h : k (!ds.isEmpty)) : Td (.py (.list ds)) k := h
theorem td_tup {ds : List PyData} {k : Bool → Prop} (h : k (!ds.isEmpty)) : Td (.py (.tuple ds)) k := h
theorem td_own {ds : List PyData} {k : Bool → Prop} (h : k (!ds.isEmpty)) : Td (.mine (.lst ds)) k := h
theorem one_mk {d : D} {k : D → Prop} (h : k d) : One [d] k := h
theorem two_mk {d u : D} {k : D → D → Prop} (h : k d u) : Two [d, u] k := h
theorem tp_mk {ds : List PyData} {k : List PyData → Prop} (h : k ds) : Tp (.py (.tuple ds)) k := h
theorem ls_py {ds : List PyData} {k : List PyData → Prop} (h : k ds) : Ls (.py (.list ds)) k := h
theorem ls_own {ds : List PyData} {k : List PyData → Prop} (h : k ds) : Ls (.mine (.lst ds)) k := h
theorem ls_brw {ds : List PyData} {k : List PyData → Prop} (h : k ds) : Ls (.brw ds) k := h
theorem sq_tup {ds : List PyData} {k : List PyData → Prop} (h : k ds) : Sq (.py (.tuple ds)) k := h
theorem sq_py {ds : List PyData} {k : List PyData → Prop} (h : k ds) : Sq (.py (.list ds)) k := h
theorem sq_own {ds : List PyData} {k : List PyData → Prop} (h : k ds) : Sq (.mine (.lst ds)) k := h
theorem sq_brw {ds : List PyData} {k : List PyData → Prop} (h : k ds) : Sq (.brw ds) k := h
theorem pd_py {p : PyData} {k : PyData → Prop} (h : k p) : Pd (.py p) k := h
theorem pd_own {ds : List PyData} {k : PyData → Prop} (h : k (.list ds)) : Pd (.mine (.lst ds)) k := h
theorem pd_brw {ds : List PyData} {k : PyData → Prop} (h : k (.list ds)) : Pd (.brw ds) k := h
theorem sqp_t {ds : List PyData} {k : List PyData → Prop} (h : k ds) : SqP (.tuple ds) k := h
theorem sqp_l {ds : List PyData} {k : List PyData → Prop} (h : k ds) : SqP (.list ds) k := h
theorem pys_nil {k : List PyData → Prop} (h : k []) : Pys [] k := h
theorem pys_cons {p : PyData} {r : List D} {k : List PyData → Prop} (h : Pys r fun ps => k (p :: ps)) : Pys (.py p :: r) k := h
theorem py1_mk {p : PyData} {k : PyData → Prop} (h : k p) : Py1 (.py p) k := h
theorem lend_tup {ds : List PyData} {k : Int → Prop} (h : k ds.length) : Lend (.py (.tuple ds)) k := h
theorem lend_py {ds : List PyData} {k : Int → Prop} (h : k ds.length) : Lend (.py (.list ds)) k := h
theorem lend_own {ds : List PyData} {k : Int → Prop} (h : k ds.length) : Lend (.mine (.lst ds)) k := h
theorem lend_brw {ds : List PyData} {k : Int → Prop} (h : k ds.length) : Lend (.brw ds) k := h
theorem ixd_tup {ds : List PyData} {i : Int} {k : PyData → Prop} (h : ∃ d, atI ds i = some d ∧ k d) : Ixd (.py (.tuple ds)) (.py (.int i)) k := h
theorem ixd_py {ds : List PyData} {i : Int} {k : PyData → Prop} (h : ∃ d, atI ds i = some d ∧ k d) : Ixd (.py (.list ds)) (.py (.int i)) k := h
theorem ixd_own {ds : List PyData} {i : Int} {k : PyData → Prop} (h : ∃ d, atI ds i = some d ∧ k d) : Ixd (.mine (.lst ds)) (.py (.int i)) k := h
theorem ixd_brw {ds : List PyData} {i : Int} {k : PyData → Prop} (h : ∃ d, atI ds i = some d ∧ k d) : Ixd (.brw ds) (.py (.int i)) k := h
theorem sld_tup {ds : List PyData} {lo hi : Option Int} {k : PyData → Prop} (h : k (.tuple (cutD ds lo hi))) : Sld (.py (.tuple ds)) lo hi k := h
theorem sld_py {ds : List PyData} {lo hi : Option Int} {k : PyData → Prop} (h : k (.list (cutD ds lo hi))) : Sld (.py (.list ds)) lo hi k := h
theorem sld_own {ds : List PyData} {lo hi : Option Int} {k : PyData → Prop} (h : k (.list (cutD ds lo hi))) : Sld (.mine (.lst ds)) lo hi k := h
theorem bint_i {i : Int} {k : Int → Prop} (h : k i) : Bint (.py (.int i)) k := h
theorem bint_b {b : Bool} {k : Int → Prop} (h : k (if b then 1 else 0)) : Bint (.py (.bool b)) k := h
theorem rw_subI {i j : Int} (h : Φ (.py (.int (i - j))) n) : Rw c (rI0 fun i j => .int (i - j)) (.py (.int i)) (.py (.int j)) n Φ := rw_i0 (h := h)
theorem rw_ltI {i j : Int} (h : Φ (.py (.bool (decide (i < j)))) n) : Rw c (rI0 fun i j => .bl (decide (i < j))) (.py (.int i)) (.py (.int j)) n Φ := rw_i0 (h := h)
theorem rw_leI {i j : Int} (h : Φ (.py (.bool (decide (i ≤ j)))) n) : Rw c (rI0 fun i j => .bl (decide (i ≤ j))) (.py (.int i)) (.py (.int j)) n Φ := rw_i0 (h := h)
theorem rw_gtI {i j : Int} (h : Φ (.py (.bool (decide (j < i)))) n) : Rw c (rI0 fun i j => .bl (decide (j < i))) (.py (.int i)) (.py (.int j)) n Φ := rw_i0 (h := h)
theorem rw_geI {i j : Int} (h : Φ (.py (.bool (decide (j ≤ i)))) n) : Rw c (rI0 fun i j => .bl (decide (j ≤ i))) (.py (.int i)) (.py (.int j)) n Φ := rw_i0 (h := h)
theorem rw_modI {i j : Int} (hc : j ≠ 0) (h : Φ (.py (.int (i.fmod j))) n) : Rw c (rI (fun _ j => j ≠ 0) fun i j => .int (i.fmod j)) (.py (.int i)) (.py (.int j)) n Φ := rw_i (h := ⟨hc, h⟩)
theorem rw_fdI {i j : Int} (hc : CDivW i j) (h : Φ (.py (.int (i / j))) n) : Rw c (rI CDivW fun i j => .int (i / j)) (.py (.int i)) (.py (.int j)) n Φ := rw_i (h := ⟨hc, h⟩)
theorem rw_powI {i j : Int} (hc : 2 ≤ i ∧ 1 ≤ j ∧ i < 2 ^ 600 ∧ j ≤ 60) (h : Φ (.py (.int (i ^ j.toNat))) n) : Rw c rPOW (.py (.int i)) (.py (.int j)) n Φ := rw_i (C := fun i j => 2 ≤ i ∧ 1 ≤ j ∧ i < 2 ^ 600 ∧ j ≤ 60) (g := fun i j => V.int (i ^ j.toNat)) (h := ⟨hc, h⟩)
theorem rw_aI {i j : Int} (h : Φ (.py (.int (i + j))) n) : Rw c (rADD K) (.py (.int i)) (.py (.int j)) n Φ := rw_addI h
theorem rw_mI {i j : Int} (hc : CMulW i j) (h : Φ (.py (.int (i * j))) n) : Rw c rMUL (.py (.int i)) (.py (.int j)) n Φ := rw_mulI ⟨hc, h⟩
theorem uw_neg {i : Int} (h : Φ (.py (.int (-i))) n) : Uw c (rU fun i => .int (-i)) (.py (.int i)) n Φ := uw_u (h := h)
theorem rw_isNN (h : Φ (.py (.bool true)) n) : Rw c rISN (.py .none) (.py .none) n Φ := ⟨fun A H v1 v2 a x1 x2 Q k => by
  cases Da.non_eq x1
  cases Da.non_eq x2
  exact ⟨rfl, k _ H _ n h Ek.refl a.good (.bl _)⟩⟩
theorem rw_ntNN (h : Φ (.py (.bool false)) n) : Rw c rNTN (.py .none) (.py .none) n Φ := ⟨fun A H v1 v2 a x1 x2 Q k => by
  cases Da.non_eq x1
  cases Da.non_eq x2
  exact ⟨rfl, k _ H _ n h Ek.refl a.good (.bl _)⟩⟩
def noN : PyData → Bool
  | .none => false
  | .dict _ => false
  | _ => true
theorem Da.nn {S : Addr → Prop} {H : Hp} {v : V} {p : PyData} (h : Da K S H v p) (q : noN p = true) : v ≠ .non := by
  cases h <;> first | (intro z; cases z; done) | cases q
theorem rw_isN {p : PyData} (q : noN p = true) (h : Φ (.py (.bool false)) n) : Rw c rISN (.py p) (.py .none) n Φ := ⟨fun A H v1 v2 a x1 x2 Q k => by
  cases Da.non_eq x2
  exact ⟨rfl, by rw [decide_eq_false (Da.nn x1 q)]; exact k _ H _ n h Ek.refl a.good (.bl _)⟩⟩
theorem rw_ntN {p : PyData} (q : noN p = true) (h : Φ (.py (.bool true)) n) : Rw c rNTN (.py p) (.py .none) n Φ := ⟨fun A H v1 v2 a x1 x2 Q k => by
  cases Da.non_eq x2
  exact ⟨rfl, by rw [decide_eq_false (Da.nn x1 q)]; exact k _ H _ n h Ek.refl a.good (.bl _)⟩⟩
/-! ## isinstance, a built-in class -/
def tyN : D → Option String
  | .py .none => some "NoneType"
  | .py (.bool _) => some "bool"
  | .py (.int _) => some "int"
  | .py (.str _) => some "str"
  | .py (.list _) => some "list"
  | .py (.tuple _) => some "tuple"
  | .mine (.lst _) => some "list"
  | .brw _ => some "list"
  | _ => none
theorem tyL {H : Hp} {a : Addr} {xs : List V} (h : SqL K H a xs) : TyX K H (.ref a) (.type "list") := by
  rcases h with (h | ⟨o, h⟩) | ⟨o, its, m, hk, hc, _⟩
  · exact .base (.lst h)
  · exact .base (.frz h)
  · exact .kList hk hc
theorem tyT {H : Hp} {a : Addr} {xs : List V} (h : SqT K H a xs) : TyX K H (.ref a) (.type "tuple") := by
  rcases h with (h | ⟨o, h⟩) | ⟨o, its, m, hk, hc, _⟩
  · exact .base (.tup h)
  · exact .fTuple h
  · exact .kTuple hk hc
theorem ty_of {A : Addr → Prop} {H : Hp} {v : V} {d : D} {s : String} (x : DX c A H v d) (h : tyN d = some s) : TyX c.K H v (.type s) := by
  match d, h, x with
  | .py .none, h, x => cases h; cases Da.non_eq x; exact .base .non
  | .py (.bool b), h, x => cases h; cases Da.bl_eq x; exact .base (.bl _)
  | .py (.int i), h, x => cases h; cases Da.int_eq x; exact .base (.int _)
  | .py (.str z), h, x => cases h; cases Da.str_eq x; exact .base (.str _)
  | .py (.list ds), h, x => cases h; obtain ⟨a, xs, rfl, hs, t⟩ := Da.list_at x; exact tyL hs
  | .py (.tuple ds), h, x => cases h; obtain ⟨a, xs, rfl, hs, t⟩ := Da.tuple_at x; exact tyT hs
  | .mine (.lst ds), h, x => cases h; obtain ⟨a, rfl, _, _, xs, hs, t⟩ := x; exact tyL (SqL.of hs)
  | .brw ds, h, x => cases h; obtain ⟨a, xs, rfl, _, _, hs, t⟩ := x; exact tyL (SqL.of hs)
theorem cw_isiB {d : D} {s b : String} {r : Bool} (hK : K = c.K) (h1 : tyN d = some s) (h2 : kitB s b = some r) (h : Φ (.py (.bool r)) n) : Cw c (rIsi K) [d, .atom (.ty b)] n Φ := ⟨fun A H vs a x Q k => by
  subst hK
  match vs, x with
  | [v, w], ⟨x1, x2, _⟩ =>
    have e : w = .ty b := x2
    subst e
    exact ⟨v, .ty b, .type s, .type b, r, rfl, .ty b, ty_of x1 h1, kit_ty h2, k _ H _ n h Ek.refl a.good (.bl _)⟩⟩
/-! ## promises with a ghost -/
def SpX {ι : Type} (K : PySem.W.Frag) (ar : ι → List D) (pre : ι → Nat → Prop) (post : ι → Nat → D → Nat → Prop) : Sp := fun vs H Q E =>
  ∃ x, SpF K (fun ds n => ds = ar x ∧ pre x n) (fun _ n d m => post x n d m) vs H Q E
theorem sx_len {ι : Type} {ar : ι → List D} {pre : ι → Nat → Prop} {post : ι → Nat → D → Nat → Prop} {m : Nat} (hl : ∀ x, (ar x).length = m) (vs : List V) (H : Hp) (Q : VK) (E : XK) (h : SpX K ar pre post vs H Q E) : vs.length = m := by
  obtain ⟨x, h⟩ := h
  exact sp_len (fun ds n q => by rw [q.1]; exact hl x) vs H Q E h
theorem body_x {ι : Type} {N : List Str} {ar : ι → List D} {pre : ι → Nat → Prop} {post : ι → Nat → D → Nat → Prop} {t : TS} (hnm : ∀ x, (ar x).all D.nm = true)
    (rd : ∀ (c : Cy) (n : Nat) (x : ι), c.K = K → pre x n → Ws c t ⟨Slo.of (ar x) ++ List.replicate (N.length - (ar x).length) .emp, n⟩ ⟨fun e => post x n (.py .none) e.n, fun d m => post x n d m, fun _ => False, fun _ => False⟩)
    (vs : List V) (H : Hp) (Q : VK) (E : XK) (h : SpX K ar pre post vs H Q E) : t { nx := fun _ H' => Q .non H', rt := Q } (L2.start N vs) H := by
  obtain ⟨x, h⟩ := h
  exact body_ok (K := K) (pre := fun ds n => ds = ar x ∧ pre x n) (post := fun _ n d m => post x n d m) (fun ds n q => by rw [q.1]; exact hnm x) (fun c n ds hK q => by obtain ⟨rfl, q⟩ := q; exact rd c n x hK q) vs H Q E h
theorem wp_cx {sl : List Slo} {nn : Nat} {ι : Type} {ar : ι → List D} {pre : ι → Nat → Prop} {post : ι → Nat → D → Nat → Prop} {E : XK} {ta : TA} (hK : K = c.K)
    (h : Wa c ta ⟨sl, nn⟩ fun ds n => ds.all argOk = true ∧ ∃ x, ds.map arg = ar x ∧ pre x n ∧ ∀ d m, post x n d m → outD d = true ∧ Φ d m) : Wp c (tCall (SpX K ar pre post) [] E ta) ⟨sl, nn⟩ Φ := ⟨fun σ A H o Q k => by
  refine h.run σ A H o _ fun vs H1 ds n p e1 g1 x => ?_
  have o1 := o.keep e1 g1
  obtain ⟨p1, z, p2, p3, p4⟩ := p
  rw [List.append_nil]
  exact ⟨z, sp_run (K := K) (pre := fun ds n => ds = ar z ∧ pre z n) (post := fun _ n d m => post z n d m) hK o1.at_ x p1 ⟨p2, p3⟩ p4 fun v H2 d m q e2 g2 y => k v H2 d m q (e1.trans e2) g2 y⟩⟩
end
end Wx

/-! ### part Vm -/
set_option Elab.async false
set_option linter.all false
set_option maxRecDepth 100000
set_option maxHeartbeats 1000000
set_option autoImplicit false
/-! The plain law's data: where a cell comes from; the cut. -/
namespace Wx
open PySem L2
inductive Src where
  | inp (p : Int)
  | lit (v : Int)
  deriving DecidableEq
def Src.py : Src → PyData
  | .inp p => .tuple [.str "in", .int p]
  | .lit v => .tuple [.str "lit", .int v]
def pys (l : List Src) : List PyData := l.map Src.py
abbrev srcs (l : List Src) : PyData := .tuple (pys l)
theorem eqv_int (i j : Int) : PyData.eqv (.int i) (.int j) = decide (i = j) := by
  rw [PyData.eqv, Bool.beq_eq_decide_eq]
theorem eqv_src (s t : Src) : PyData.eqv s.py t.py = decide (s = t) := by
  have h1 : ((Str.ofString "in") == (Str.ofString "in")) = true := by decide +kernel
  have h2 : ((Str.ofString "in") == (Str.ofString "lit")) = false := by decide +kernel
  have h3 : ((Str.ofString "lit") == (Str.ofString "in")) = false := by decide +kernel
  have h4 : ((Str.ofString "lit") == (Str.ofString "lit")) = true := by decide +kernel
  cases s <;> cases t <;> simp [Src.py, PyData.eqv, PyData.eqvAll, h1, h2, h3, h4, Bool.beq_eq_decide_eq]
theorem eqvAll_src : ∀ l m : List Src, PyData.eqvAll (pys l) (pys m) = decide (l = m)
  | [], [] => by simp [pys, PyData.eqvAll]
  | s :: l, t :: m => by
    have ih := eqvAll_src l m
    unfold pys at ih ⊢
    rw [List.map_cons, List.map_cons, PyData.eqvAll, ih, eqv_src]
    simp
  | [], _ :: _ => by simp [pys, PyData.eqvAll]
  | _ :: _, [] => by simp [pys, PyData.eqvAll]
theorem eqv_srcs (l m : List Src) : PyData.eqv (srcs l) (srcs m) = decide (l = m) := by rw [PyData.eqv]; exact eqvAll_src l m
theorem mem_src (s : Src) (l : List Src) : Mem s.py (pys l) = decide (s ∈ l) := by
  unfold Mem pys
  rw [List.any_map]
  induction l with
  | nil => simp
  | cons t l ih =>
    rw [List.any_cons, ih]
    simp only [Function.comp, eqv_src, List.mem_cons]
    by_cases h : s = t
    · subst h; simp
    · have h2 : ¬ t = s := fun z => h z.symm
      simp [h, h2]
theorem shp_src (s : Src) : SeqAt.shaped s.py = true := by
  have h1 : PyData.strOk (Str.ofString "in") = true := by decide +kernel
  have h2 : PyData.strOk (Str.ofString "lit") = true := by decide +kernel
  cases s <;> simp [Src.py, SeqAt.shaped, PyData.canLay0, PyData.canLayAll0, PyData.depth, PyData.depthAll, h1, h2]
theorem shpA : ∀ l : List Src, PyData.canLayAll0 (pys l) = true ∧ PyData.depthAll (pys l) ≤ 1
  | [] => ⟨rfl, by simp [pys, PyData.depthAll]⟩
  | s :: l => by
    obtain ⟨h1, h2⟩ := shpA l
    have h3 : s.py.canLay0 = true := SeqAt.canLay_of_shaped (shp_src s)
    have h4 : s.py.depth ≤ 1 := by cases s <;> simp [Src.py, PyData.depth, PyData.depthAll]
    unfold pys at h1 h2 ⊢
    refine ⟨by rw [List.map_cons, PyData.canLayAll0, h3, h1]; rfl, ?_⟩
    rw [List.map_cons, PyData.depthAll]
    omega
theorem shp_srcs (l : List Src) : SeqAt.shaped (srcs l) = true := by
  obtain ⟨h1, h2⟩ := shpA l
  unfold SeqAt.shaped
  rw [Bool.and_eq_true]
  exact ⟨by rw [PyData.canLay0]; exact h1, decide_eq_true (by rw [PyData.depth]; omega)⟩
theorem pys_len (l : List Src) : (pys l).length = l.length := List.length_map _
theorem pys_at {l : List Src} {i : Nat} {s : Src} (h : l[i]? = some s) : atI (pys l) (i : Int) = some s.py := atI_nat (by unfold pys; rw [List.getElem?_map, h] <;> rfl)
theorem pys_item {l : List Src} {i : Nat} {d : D} (h : ((pys l).map D.py)[i]? = some d) : ∃ s, l[i]? = some s ∧ s ∈ l ∧ d = .py s.py := by
  unfold pys at h
  rw [List.getElem?_map, List.getElem?_map] at h
  cases q : l[i]? with
  | none => rw [q] at h; cases h
  | some s => rw [q] at h; cases h; exact ⟨s, rfl, List.mem_of_getElem? q, rfl⟩
theorem pys_drop (l : List Src) (i : Nat) : (pys l).drop i = pys (l.drop i) := by unfold pys; rw [List.map_drop]
theorem pys_take (l : List Src) (i : Nat) : (pys l).take i = pys (l.take i) := by unfold pys; rw [List.map_take]
theorem pys_app (l m : List Src) : pys l ++ pys m = pys (l ++ m) := by unfold pys; rw [List.map_append]
theorem cut_from {α : Type} (xs : List α) (i : Nat) (h : i ≤ xs.length) : cutD xs (some (i : Int)) none = xs.drop i := by
  unfold cutD
  rw [HT.sIx_nat, HT.sIx_none, Nat.min_eq_left h]
  exact List.take_of_length_le (by rw [List.length_drop]; exact Nat.le_refl _)
def cut : Int → List Src → Int × List Src
  | t, [] => (t, [])
  | t, s :: r => if s = .inp (t - 1) ∧ s ∉ r then cut (t - 1) r else (t, s :: r)

theorem shp_int (i : Int) : SeqAt.shaped (.int i) = true := by simp [SeqAt.shaped, PyData.canLay0, PyData.depth]
theorem shp_bool (b : Bool) : SeqAt.shaped (.bool b) = true := by simp [SeqAt.shaped, PyData.canLay0, PyData.depth]
theorem shp_none : SeqAt.shaped .none = true := by simp [SeqAt.shaped, PyData.canLay0, PyData.depth]
theorem shp_nilT : SeqAt.shaped (.tuple []) = true := by simp [SeqAt.shaped, PyData.canLay0, PyData.canLayAll0, PyData.depth, PyData.depthAll]
theorem shp_nilL : SeqAt.shaped (.list []) = true := by simp [SeqAt.shaped, PyData.canLay0, PyData.canLayAll0, PyData.depth, PyData.depthAll]
theorem shp_str {x : Str} (h : PyData.strOk x = true) : SeqAt.shaped (.str x) = true := by simp [SeqAt.shaped, PyData.canLay0, PyData.depth, h]
theorem shp_inp (p : Int) : SeqAt.shaped (.tuple [.str "in", .int p]) = true := shp_src (.inp p)
theorem shp_lit (p : Int) : SeqAt.shaped (.tuple [.str "lit", .int p]) = true := shp_src (.lit p)
theorem eqv_inp (s : Src) (p : Int) : PyData.eqv s.py (.tuple [.str "in", .int p]) = decide (s = .inp p) := eqv_src s (.inp p)
theorem eqv_nil (l : List Src) : PyData.eqv (.tuple (pys l)) (.tuple []) = decide (l = []) := eqv_srcs l []
section
variable {c : Cy} {Φ : D → Nat → Prop} {n : Nat} {K : PySem.W.Frag}
theorem rw_eqI {i j : Int} (hK : K = c.K) (h : Φ (.py (.bool (decide (i = j)))) n) : Rw c (rEqD K) (.py (.int i)) (.py (.int j)) n Φ := rw_eq hK ⟨shp_int _, shp_int _, by rw [eqv_int]; exact h⟩
theorem rw_neI {i j : Int} (hK : K = c.K) (h : Φ (.py (.bool (!decide (i = j)))) n) : Rw c (rNeD K) (.py (.int i)) (.py (.int j)) n Φ := rw_ne hK ⟨shp_int _, shp_int _, by rw [eqv_int]; exact h⟩
theorem rw_eqSt {x y : Str} (hK : K = c.K) (hx : PyData.strOk x = true) (hy : PyData.strOk y = true) (hb : (x == y) = true) (h : Φ (.py (.bool true)) n) : Rw c (rEqD K) (.py (.str x)) (.py (.str y)) n Φ := rw_eq hK ⟨shp_str hx, shp_str hy, by rw [PyData.eqv, hb]; exact h⟩
theorem rw_eqSf {x y : Str} (hK : K = c.K) (hx : PyData.strOk x = true) (hy : PyData.strOk y = true) (hb : (x == y) = false) (h : Φ (.py (.bool false)) n) : Rw c (rEqD K) (.py (.str x)) (.py (.str y)) n Φ := rw_eq hK ⟨shp_str hx, shp_str hy, by rw [PyData.eqv, hb]; exact h⟩
end
end Wx

/-! ### part Vc -/
set_option Elab.async false
set_option linter.all false
set_option maxRecDepth 100000
set_option maxHeartbeats 1000000
set_option autoImplicit false
/-! Own classes in the calculus: attributes, making, properties, methods. -/
namespace Wx
open PySem L2
/-! ## a target o.f -/
def gAtt (K : PySem.W.Frag) (to : TE) (f : Str) : TG := fun v σ H Q => to σ H fun x H1 => ∃ a C dx fs, x = .ref a ∧ H1 a = some (.ins C dx fs) ∧ Cls K C ∧ NoAttr K C f ∧ fs.length < 1000 ∧ Q σ (upd H1 a (.ins C dx (putF f v fs)))
theorem pg_att {X : Cx} {o : Expr} {f : Str} {pos : Pos} {to : TE} (ho : PE X o to) : PG X (.Attribute o f pos) (gAtt X.K to f) := by
  refine ⟨fun pins s σ H v u Q I r h => ?_⟩
  rw [arm_assign_Attribute]
  refine wpAny_bind (wpAny_holding (thn (ho.run pins s σ H _ I h) fun ov s1 ⟨x, H1, I1, r1, a, C, dx, fs, ex, ea, c, n, l, q⟩ => ?_))
  subst ex
  obtain rfl : ov = Value.ref a := r1
  exact wpAny_bind (wpAny_standAt (wpAny_bind (wpAny_holding (setattr_ok I1 ea c n l r fun s3 I3 => wpAny_release ⟨σ, _, I3, q⟩))))
/-! ## making -/
abbrev Cy.ext (c : Cy) (A : Addr → Prop) (x : Addr) (h : ∀ a, c.k = some a → A a) : Cy := ⟨c.K, c.k, fun a => A a ∨ a = x, fun a q => .inl (h a q)⟩
def SpI {ι : Type} (K : PySem.W.Frag) (C : Addr) (ar : ι → List D) (pre : ι → Nat → Prop) (fs : ι → List (Str × PyData)) : Sp := fun vs H Q _ =>
  ∃ (z : ι) (c : Cy) (n : Nat) (x dx : Addr) (args : List V), vs = .ref x :: args ∧ c.K = K ∧ Good c n H ∧ c.S0 x ∧ c.k ≠ some x ∧ H x = some (.ins C dx []) ∧ DXs c c.S0 H args (ar z) ∧ pre z n ∧
    ∀ (H' : Hp) (ws : List (Str × V)), H' x = some (.ins C dx ws) → FsR K c.S0 H' ws (fs z) → (∀ a o, c.k ≠ some a → a ≠ x → H a = some o → H' a = some o) → Good c n H' → Q .non H'
theorem si_len {ι : Type} {K : PySem.W.Frag} {C : Addr} {ar : ι → List D} {pre : ι → Nat → Prop} {fs : ι → List (Str × PyData)} {m : Nat} (hl : ∀ x, (ar x).length = m) (vs : List V) (H : Hp) (Q : VK) (E : XK) (h : SpI K C ar pre fs vs H Q E) : vs.length = m + 1 := by
  obtain ⟨z, c, n, x, dx, args, rfl, _, _, _, _, _, xs, _⟩ := h
  rw [List.length_cons, xs.len, hl z]
/-- code of an __init__: from x without attributes to x with fs -/
structure Wz (c : Cy) (t : TS) (e : En) (x C dx : Addr) (n : Nat) (fs : List (Str × PyData)) : Prop where
  run : ∀ (σ : St) (A : Addr → Prop) (H : Hp), Ok c A H σ e → (∀ a, ¬ ownA σ e.sl a) → H x = some (.ins C dx []) → ∀ Dn : Ends, (∀ (σ' : St) (H' : Hp) (ws : List (Str × V)), H' x = some (.ins C dx ws) → FsR c.K c.S0 H' ws fs → (∀ a o, c.k ≠ some a → a ≠ x → H a = some o → H' a = some o) → Good c n H' → Dn.nx σ' H') → t Dn σ H
section
variable {c : Cy} {sl : List Slo} {nn n : Nat} {x C dx : Addr} {fs : List (Str × PyData)} {t u : TS} {te : TE}
def noOwn (sl : List Slo) : Bool := sl.all fun s => match s with
  | .own _ => false
  | _ => true
theorem no_own {σ : St} {sl : List Slo} (h : noOwn sl = true) (a : Addr) : ¬ ownA σ sl a := fun ⟨i, w, z, _⟩ => by
  have := List.all_eq_true.mp h _ (List.mem_of_getElem? z)
  cases this
theorem wz_seq (hk : c.k ≠ some x) (hx : c.S0 x) (h : Ws c t ⟨sl, nn⟩ ⟨fun e1 => noOwn e1.sl = true ∧ Wz c u e1 x C dx n fs, fun _ _ => False, fun _ => False, fun _ => False⟩) : Wz c (tSeq t u) ⟨sl, nn⟩ x C dx n fs :=
  ⟨fun σ A H o no hH Dn fin => h.run σ A H o { Dn with nx := u Dn } (fun σ1 A1 H1 e1 q kp w o1 => q.2.run σ1 A1 H1 o1 (no_own q.1) (kp x _ (fun z => z.elim hk (no x)) hH) Dn fun σ2 H2 ws r1 r2 r3 r4 => fin σ2 H2 ws r1 r2 (fun a u n1 n2 z => r3 a u n1 n2 (kp a u (fun y => y.elim n1 (no a)) z)) r4)
    (fun _ _ _ _ z _ _ _ => z.elim) (fun _ _ _ _ z _ _ _ => z.elim) (fun _ _ _ _ z _ _ _ => z.elim)⟩
theorem wz_att2 {K : PySem.W.Frag} {f1 f2 : Str} {p q : PyData} (hK : K = c.K) (hk : c.k ≠ some x) (hx : c.S0 x) (h0 : sl[0]? = some (.val (.atom (.ref x)))) (cl : Cls c.K C) (n1 : NoAttr c.K C f1) (n2 : NoAttr c.K C f2) (hne : ∀ v w : V, putF f2 w (putF f1 v []) = [(f1, v), (f2, w)])
    (h : Wp c te ⟨sl, nn⟩ fun d m => d = .py (.tuple [p, q]) ∧ m = n) : Wz c (tAsg te (gTup K 2 (gCons (gAtt K (tVar 0) f1) (gCons (gAtt K (tVar 0) f2) gNil)))) ⟨sl, nn⟩ x C dx n [(f1, p), (f2, q)] := ⟨fun σ A H o no hH Dn fin => by
  subst hK
  obtain ⟨_, v0, s0, e0⟩ := o.val 0 _ h0
  have e0' : v0 = .ref x := e0
  subst e0'
  refine h.run σ A H o _ fun v H1 d m pr e1 g1 xd => ?_
  obtain ⟨rfl, rfl⟩ := pr
  obtain ⟨a, xs, rfl, hs, tl⟩ := Da.tuple_at xd
  cases tl with
  | cons y1 tl =>
    cases tl with
    | cons y2 tl =>
      cases tl
      rename_i v1 v2
      have hx1 : H1 x = some (.ins C dx []) := e1 x _ hk hH
      have xA : A x := o.sub x (.inl hx)
      have pl : (putF f1 v1 ([] : List (Str × V))).length < 1000 := by
        have := length_putF f1 v1 ([] : List (Str × V))
        simp at this
        omega
      refine ⟨a, _, rfl, hs, rfl, v1, [v2], rfl, .ref x, s0, x, C, dx, [], rfl, hx1, cl, n1, by decide, v2, [], rfl, .ref x, s0, x, C, dx, _, rfl, upd_same, cl, n2, pl, rfl, ?_⟩
      rw [hne]
      have kA : Kept A H1 (upd (upd H1 x (.ins C dx (putF f1 v1 []))) x (.ins C dx [(f1, v1), (f2, v2)])) := fun b u nb z => by rw [upd_ne fun w => nb (by rw [w]; exact xA), upd_ne fun w => nb (by rw [w]; exact xA)]; exact z
      refine fin σ _ _ upd_same ⟨rfl, (y1.keep kA).less fun b z => o.sub b (.inl z), rfl, (y2.keep kA).less fun b z => o.sub b (.inl z), True.intro⟩ (fun b u q1 q2 z => ?_) ⟨fun b z => ?_, fun b z => ?_⟩
      · rw [upd_ne q2, upd_ne q2]; exact e1 b u q1 z
      · by_cases w : b = x
        · rw [w, upd_same]; exact fun y => nomatch y
        · rw [upd_ne w, upd_ne w]; exact g1.al b z
      · have w : b ≠ x := fun w => hk (by rw [← w]; exact z)
        rw [upd_ne w, upd_ne w]; exact g1.kl b z⟩
/-- the reading of an __init__ -/
theorem body_i {ι : Type} {K : PySem.W.Frag} {N : List Str} {ar : ι → List D} {pre : ι → Nat → Prop} {fsz : ι → List (Str × PyData)} {t : TS} (hnm : ∀ x, (ar x).all D.nm = true)
    (rd : ∀ (c : Cy) (n : Nat) (z : ι) (x dx : Addr), c.K = K → c.k ≠ some x → c.S0 x → pre z n → Wz c t ⟨Slo.of (.atom (.ref x) :: ar z) ++ List.replicate (N.length - (D.atom (.ref x) :: ar z).length) .emp, n⟩ x C dx n (fsz z))
    (vs : List V) (H : Hp) (Q : VK) (E : XK) (h : SpI K C ar pre fsz vs H Q E) : t { nx := fun _ H' => Q .non H', rt := Q } (L2.start N vs) H := by
  obtain ⟨z, c, n, x, dx, args, rfl, hK, g, hx, hk, hH, xs, hp, k⟩ := h
  have o := start_ok (N := N) (ds := .atom (.ref x) :: ar z) g (vs := .ref x :: args) ⟨rfl, xs⟩ (by rw [List.all_cons, hnm z]; rfl)
  have no : ∀ a, ¬ ownA (L2.start N (.ref x :: args)) (Slo.of (D.atom (.ref x) :: ar z) ++ List.replicate (N.length - (D.atom (.ref x) :: ar z).length) Slo.emp) a := no_own (by
    unfold noOwn
    rw [List.all_append, Bool.and_eq_true]
    constructor
    · unfold Slo.of; rw [List.all_map]; exact List.all_eq_true.mpr fun _ _ => rfl
    · exact List.all_eq_true.mpr fun s hs => by rw [List.eq_of_mem_replicate hs])
  exact (rd c n z x dx hK hk hx hp).run _ _ H o no hH _ fun σ' H' ws r1 r2 r3 r4 => k H' ws r1 (by rw [← hK]; exact r2) r3 r4
theorem wp_make {ι : Type} {K : PySem.W.Frag} {ar : ι → List D} {pre : ι → Nat → Prop} {fsz : ι → List (Str × PyData)} {E : XK} {ta : TA} {Φ : D → Nat → Prop} (hK : K = c.K)
    (h : Wa c ta ⟨sl, nn⟩ fun ds n => ds.all argOk = true ∧ ∃ z, ds.map arg = ar z ∧ pre z n ∧ Φ (.ins C (fsz z)) n) : Wp c (tMake C (SpI K C ar pre fsz) [] E ta) ⟨sl, nn⟩ Φ := ⟨fun σ A H o Q k => by
  subst hK
  refine h.run σ A H o _ fun vs H1 ds n p e1 g1 xs => ?_
  have o1 := o.keep e1 g1
  obtain ⟨p1, z, p2, p3, p4⟩ := p
  intro x dx hx hdx hne
  rw [List.append_nil]
  have e2 : Ek c H1 (upd H1 dx (.own x)) := Ek.new hdx
  have hx2 : (upd H1 dx (.own x)) x = none := by rw [upd_ne (Ne.symm hne)]; exact hx
  have e3 : Ek c (upd H1 dx (.own x)) (upd (upd H1 dx (.own x)) x (.ins C dx [])) := Ek.new hx2
  have g3 : Good c n (upd (upd H1 dx (.own x)) x (.ins C dx [])) := (g1.new hdx).new hx2
  have a1 := o1.at_
  have nAx : ¬ A x := o1.fresh hx
  have kx : c.k ≠ some x := fun q => nAx (a1.k x q)
  have ys := dxs_arg a1 p1 xs
  have apart : ∀ {v : V} {d : D}, DX (c.at_ A a1.k) A H1 v d → DX (c.ext A x a1.k) (fun a => A a ∨ a = x) (upd (upd H1 dx (.own x)) x (.ins C dx [])) v d := fun {v d} y => by
    have kk : Kept A H1 (upd (upd H1 dx (.own x)) x (.ins C dx [])) := fun b u nb q => by rw [upd_ne (ne_of_none q hx), upd_ne (ne_of_none q hdx)]; exact q
    cases d with
    | py p => exact Da.keep (fun b u nb q => kk b u (fun z => nb (.inl z)) q) (Da.apart hx y)
    | mine w => obtain ⟨b, _, n1, n2, _⟩ := y; exact (n1 n2).elim
    | dct ds =>
      obtain ⟨b, kvs, q, m, r, t⟩ := y
      have nb : ¬ (A b ∨ b = x) := fun z => z.elim m fun w => by rw [w, hx] at r; cases r
      exact ⟨b, kvs, q, nb, kk b _ m r, (t.apart hx).keep fun b u nb q => kk b u (fun z => nb (.inl z)) q⟩
    | dcl ds =>
      obtain ⟨b, kvs, od, q, m, r, t⟩ := y
      have nb : ¬ (A b ∨ b = x) := fun z => z.elim m fun w => by rw [w, hx] at r; cases r
      exact ⟨b, kvs, od, q, nb, kk b _ m r, (t.apart hx).keep fun b u nb q => kk b u (fun z => nb (.inl z)) q⟩
    | brw ds => obtain ⟨b, ws, q, m, s, r, t⟩ := y; exact ⟨b, ws, q, m, .inl s, by rw [upd_ne (ne_of_none r hx), upd_ne (ne_of_none r hdx)]; exact r, (DaL.apart hx t).keep fun b u nb q => kk b u (fun z => nb (.inl z)) q⟩
    | ins C fs =>
      obtain ⟨b, dy, ws, q, m, r, t⟩ := y
      have nb : ¬ (A b ∨ b = x) := fun z => z.elim m fun w => by rw [w, hx] at r; cases r
      exact ⟨b, dy, ws, q, nb, kk b _ m r, (t.apart hx).keep fun b u nb q => kk b u (fun z => nb (.inl z)) q⟩
    | atom w => exact y
    | kln => exact y
    | lsx =>
      obtain ⟨b, ws, q, m, r⟩ := y
      have nb : ¬ (A b ∨ b = x) := fun z => z.elim m fun w => by rw [w, hx] at r; cases r
      exact ⟨b, ws, q, nb, kk b _ m r⟩
  have all : ∀ {vs : List V} {ds : List D}, DXs (c.at_ A a1.k) A H1 vs ds → DXs (c.ext A x a1.k) (fun a => A a ∨ a = x) (upd (upd H1 dx (.own x)) x (.ins C dx [])) vs ds := by
    intro vs
    induction vs with
    | nil =>
      intro ds h
      cases ds with
      | nil => exact True.intro
      | cons _ _ => exact h.elim
    | cons v vs ih =>
      intro ds h
      cases ds with
      | nil => exact h.elim
      | cons d ds => exact ⟨apart h.1, ih h.2⟩
  refine ⟨z, c.ext A x a1.k, n, x, dx, vs, rfl, rfl, ⟨fun a q => ?_, g3.kl⟩, .inr rfl, kx, upd_same, by rw [← p2]; exact all ys, p3, fun H' ws r1 r2 r3 r4 => ⟨rfl, ?_⟩⟩
  · rcases q with q | q
    · have := a1.al a q
      cases w : H1 a with
      | none => exact absurd w this
      | some u => rw [upd_ne (ne_of_none w hx), upd_ne (ne_of_none w hdx), w]; exact fun y => nomatch y
    · rw [q, upd_same]; exact fun y => nomatch y
  · have ek : Ek c H1 H' := fun b u nb q => r3 b u nb (ne_of_none q hx) (by rw [upd_ne (ne_of_none q hx), upd_ne (ne_of_none q hdx)]; exact q)
    exact k (.ref x) H' _ n p4 (e1.trans ek) ⟨fun b q => r4.al b (.inl (a1.s b q)), r4.kl⟩ ⟨x, dx, ws, rfl, nAx, r1, r2.less fun b q => .inl q⟩⟩
end
end Wx

/-! ### part Vd -/
set_option Elab.async false
set_option linter.all false
set_option maxRecDepth 100000
set_option maxHeartbeats 1000000
set_option autoImplicit false
/-! Own classes: special methods of the text behind len, == and !=; reading, calling. -/
namespace Wx
open PySem L2 PyProof.Rows
/-! ## the operators' rules -/
section
variable {X : Cx} {k : Nat} {C f : Addr} {fd : FuncData} {ps : List Str} {sp : Sp}
/-- len(o), the class's own __len__ -/
def rLENO (C : Addr) (sp : Sp) : List V → Hp → VK → Prop := fun xs H Q => ∃ a dx fs, xs = [.ref a] ∧ H a = some (.ins C dx fs) ∧ sp [.ref a] H (fun v H' => ∃ i : Int, v = .int i ∧ 0 ≤ i ∧ i < 2 ^ 63 ∧ Q (.int i) H') E0
theorem callLENO (F : FnOk X.prog X.w X.K X.mg X.base CX0 k f fd ps sp) (hs : PySem.W.findIn X.K (.ref C) "__len__" = some (some (.ref f))) (hf : PySem.W.isFn X.K (.ref f) = true) (hb : Binds X.K fd ps []) (hr : Room (k + 1) X.A) : CallR X (.builtin "len") (rLENO C sp) := by
  intro pins s σ H xs us Q I r h
  obtain ⟨a, dx, fs, rfl, ha, hsp⟩ := h
  cases r with
  | cons r1 r2 =>
    cases r2
    cases r1
    obtain ⟨mA, O, _⟩ := ins_get I.hok ha
    obtain ⟨od, J, _⟩ := O.look
    obtain ⟨m, hF⟩ := I.fr
    have hl := F.len _ _ _ _ hsp
    refine PySem.W.len_K hF I.ok.mod.kin J hs hf (wpAny_call (codeAny_mono (F.run X.A.in1 X.stack s H ⟨[.ref a], []⟩ [.ref a] [.ref a] _ E0 hr.in1 I.env0.in1 (by
      have := hb s [.ref a] I.kIn (by simpa using hl)
      simpa using this) (.cons rfl .nil) hsp) fun res s' hq => ?_))
    cases res with
    | error er => exact False.elim hq
    | ok fl =>
      cases fl with
      | next => exact False.elim hq
      | brk => exact False.elim hq
      | cont => exact False.elim hq
      | ret u =>
        obtain ⟨v, H', I', rv, i, rfl, h0, h1, q⟩ := I.after hq
        obtain ⟨t, rfl⟩ := rv
        exact ⟨⟨h0, h1⟩, .int i, H', I'.tok _, ⟨_, rfl⟩, q⟩
/-- o == y, the class's own __eq__ -/
def rEQO (K : PySem.W.Frag) (C : Addr) (ng : Bool) (sp : Sp) : R2 := fun x y H Q => ∃ a dx fs t, x = .ref a ∧ H a = some (.ins C dx fs) ∧ TyX K H y t ∧ PySem.W.notFirst K C t = true ∧ sp [.ref a, y] H (fun v H' => ∃ b : Bool, v = .bl b ∧ Q (.bl (if ng then !b else b)) H') E0
/-- what both ask: the own __eq__ run at the two -/
theorem eq_run {pins : List (Addr × Obj)} {s : Shared} {σ : L2.St} {H : Hp} {a : Addr} {y : V} {u : Value} {Q : Bool → Hp → Prop} {A : Around} (F : FnOk X.prog X.w X.K X.mg X.base CX0 k f fd ps sp) (hb : Binds X.K fd ps []) (hr : Room k A) (hA : A.frames = X.A.frames)
    (I : Inv X pins σ H s) (ry : RelV y u) (h : sp [.ref a, y] H (fun v H' => ∃ b : Bool, v = .bl b ∧ Q b H') E0) {E : Value → Shared → Prop} :
    wpAny (model X.prog X.w) A (call (.ref f) [.ref a, u]) (fun v s' => ∃ (b : Bool) (H' : Hp), v = .bool b ∧ Inv X pins σ H' s' ∧ Q b H') E s := by
  have hl := F.len _ _ _ _ h
  have e0 := I.env0
  refine wpAny_call (codeAny_mono (F.run A X.stack s H ⟨[.ref a, u], []⟩ [.ref a, u] [.ref a, y] _ E0 hr ⟨by rw [hA]; exact e0.frames, e0.mod, e0.bs, e0.bsz, e0.funs, e0.frf, e0.hok, e0.bare⟩ (by
    have := hb s [.ref a, u] I.kIn (by simpa using hl)
    simpa using this) (.cons rfl (.cons ry .nil)) h) fun res s' hq => ?_)
  cases res with
  | error er => exact False.elim hq
  | ok fl =>
    cases fl with
    | next => exact False.elim hq
    | brk => exact False.elim hq
    | cont => exact False.elim hq
    | ret w =>
      obtain ⟨v, H', I', rv, b, rfl, q⟩ := I.after hq
      cases rv
      exact ⟨b, H', rfl, I', q⟩
theorem opEQO (F : FnOk X.prog X.w X.K X.mg X.base CX0 k f fd ps sp) (hs : PySem.W.findIn X.K (.ref C) "__eq__" = some (some (.ref f))) (hf : PySem.W.isFn X.K (.ref f) = true) (hb : Binds X.K fd ps []) (hr : Room k X.A) : OpR X (compareOp .Eq) (rEQO X.K C false sp) := by
  intro pins s σ H x y v u Q I rx ry h
  obtain ⟨a, dx, fs, t, rfl, ha, ty, nf, hsp⟩ := h
  cases rx
  obtain ⟨mA, O, _⟩ := ins_get I.hok ha
  obtain ⟨od, J, _⟩ := O.look
  obtain ⟨m, hF⟩ := I.fr
  obtain ⟨Pk, Z, pk, _⟩ := kit_of I ry ty
  refine PySem.W.cmp_K (op := .Eq) (tb := t) hr.units0 hF I.ok.mod.kin J (Z.ty _ _ I.kIn pk) nf hs hf (wpAny_mono (eq_run (Q := fun b H' => Q (.bl b) H') F hb hr rfl I ry hsp) (fun v' s' z => ?_) fun _ _ z => z)
  obtain ⟨b, H', rfl, I', q⟩ := z
  exact ⟨.bl b, H', I', rfl, q⟩
/-- a special method of a class above, a built-in's -/
theorem bound_slot {M : Model} {A : Around} {E : Value → Shared → Prop} {s : Shared} {K : PySem.W.Frag} {a : Addr} {ox : Obj} {od : Option Obj} {name : Str} {id : String} {args : List Value} {Q : Option Value → Shared → Prop} (KX : K.In s.heap) (J : PySem.W.InstAt s.heap a ox C od)
    (hs : PySem.W.findIn K (.ref C) name = some (some (.builtin id))) (hb : bindSpecial (.builtin id) (.ref a) = pure (.builtin id, [.ref a])) (h : wpAny M A (call (.builtin id) (.ref a :: args)) (fun v => Q (some v)) E s) : wpAny M A (callSpecialIfBound? (.ref a) name args) Q E s := by
  have last : wpAny M A (call (.builtin id) ([Value.ref a] ++ args) >>= fun v => pure (some v)) Q E s := wpAny_bind (wpAny_mono h (fun _ _ z => wpAny_pure z) fun _ _ z => z)
  simp only [callSpecialIfBound?, bindSpecialIfBound?]
  refine wpAny_holding (wpAny_bind (wpAny_bind (wpAny_bind (J.type.here ((PySem.W.looks_findIn KX hs).here ?_)))))
  refine wpAny_bind (wpAny_askSetting (wpAny_ite ?_))
  split
  · rw [hb]
    exact wpAny_bind (wpAny_pure (wpAny_pure last))
  · rw [hb]
    exact wpAny_tryCatch (wpAny_bind (wpAny_pure (wpAny_pure last)))
theorem opNEO (F : FnOk X.prog X.w X.K X.mg X.base CX0 k f fd ps sp) (hs : PySem.W.findIn X.K (.ref C) "__eq__" = some (some (.ref f))) (hf : PySem.W.isFn X.K (.ref f) = true) (hn : PySem.W.findIn X.K (.ref C) "__ne__" = some (some (.builtin "object.__ne__"))) (ho : PySem.W.mroIn X.K C (.type "object") = some true)
    (hb : Binds X.K fd ps []) (hr : Room (k + 1) X.A) : OpR X (compareOp .NotEq) (rEQO X.K C true sp) := by
  intro pins s σ H x y v u Q I rx ry h
  obtain ⟨a, dx, fs, t, rfl, ha, ty, nf, hsp⟩ := h
  cases rx
  obtain ⟨mA, O, _⟩ := ins_get I.hok ha
  obtain ⟨od, J, _⟩ := O.look
  obtain ⟨m, hF⟩ := I.fr
  obtain ⟨Pk, Z, pk, _⟩ := kit_of I ry ty
  have KX := I.kIn
  have hu : X.A.in1.units < cLine := by have := hr.un; show X.A.units + 1 < cLine; omega
  have run := fun {E : Value → Shared → Prop} => eq_run (A := X.A.in1) (E := E) (Q := fun b H' => Q (.bl (!b)) H') F hb hr.in1 rfl I ry hsp
  have obj : PySem.W.Looks (model X.prog X.w) s.heap (isInstance (.ref a) (.type "object")) true := J.type.andThen (PySem.W.looks_mroIn KX ho)
  have one : wpAny (model X.prog X.w) X.A (tryCompare (.ref a) (cmpInfo .NotEq).2.1 u) (fun r s' => ∃ b H', r = some (.bool (!b)) ∧ Inv X pins σ H' s' ∧ Q (.bl (!b)) H') X.xe s := by
    unfold tryCompare
    refine wpAny_bind (bound_slot KX J hn (PySem.F.cmp_object.ne.bind _) (wpAny_call (codeAny_call_builtin PySem.F.cmp_object.ne.plain PySem.F.cmpEntry_ne (PySem.W.check_slot PySem.F.cmpKind_ne PySem.F.cmpSplit_ne obj (PySem.F.cmpArgs_ne _ _) ?_))))
    unfold Builtin.«object.__ne__»
    repeat (first | with_reducible refine wpAny_cRoomFor hu ?_ | with_reducible refine PySem.W.ifBound_K KX J hs hf (wpAny_mono run (fun v' s' z => ?_) fun _ _ z => z) | wp_step)
    obtain ⟨b, H', rfl, I', q⟩ := z
    repeat wp_step
    exact ⟨b, H', rfl, I', q⟩
  show wpAny (model X.prog X.w) X.A (richCompare .NotEq (.ref a) u) (EP X pins σ Q) X.xe s
  unfold richCompare
  simp only [oneThing_ref]
  refine wpAny_holding (wpAny_bind (wpAny_cRoomFor hr.units0 (wpAny_bind (J.type.here (wpAny_bind ((Z.ty (model X.prog X.w) _ I.kIn pk).here ?_))))))
  have nf' : t = .ref C ∨ PySem.W.subIn X.K t (.ref C) = some false := by
    unfold PySem.W.notFirst at nf
    rcases Bool.or_eq_true_iff.mp nf with z | z
    · exact .inl (beq_iff_eq.mp z)
    · exact .inr (beq_iff_eq.mp z)
  split
  · rename_i q
    have e : PySem.W.subIn X.K t (.ref C) = some false := nf'.resolve_left fun z => by rw [z] at q; simp at q
    refine wpAny_bind ((PySem.W.looks_subIn KX e).here ?_)
    rw [if_neg Bool.false_ne_true]
    refine wpAny_bind (wpAny_mono one (fun r s' z => ?_) fun _ _ z => z)
    obtain ⟨b, H', rfl, I', q⟩ := z
    exact wpAny_pure ⟨.bl (!b), H', I', rfl, q⟩
  · refine wpAny_bind (wpAny_pure ?_)
    rw [if_neg Bool.false_ne_true]
    refine wpAny_bind (wpAny_mono one (fun r s' z => ?_) fun _ _ z => z)
    obtain ⟨b, H', rfl, I', q⟩ := z
    exact wpAny_pure ⟨.bl (!b), H', I', rfl, q⟩
end

/-! ## the calculus -/
section
variable {c : Cy} {sl : List Slo} {nn n : Nat} {C : Addr} {fs : List (Str × PyData)} {te : TE} {Φ : D → Nat → Prop} {K : PySem.W.Frag} {d d2 : D}
theorem wp_fld {f : Str} (hK : K = c.K) (h : Wp c te ⟨sl, nn⟩ fun d n => ∃ C fs p, d = .ins C fs ∧ Cls c.K C ∧ NoAttr c.K C f ∧ fs.lookup f = some p ∧ Φ (.py p) n) : Wp c (tFld K te f) ⟨sl, nn⟩ Φ := ⟨fun σ A H o Q k => by
  subst hK
  refine h.run σ A H o _ fun v H1 d n p e1 g1 x => ?_
  obtain ⟨C, fs, q, rfl, cl, na, lk, hq⟩ := p
  obtain ⟨a, dx, ws, rfl, nA, r, t⟩ := x
  obtain ⟨v, lv, y⟩ := t.look lk
  exact ⟨a, C, dx, ws, v, rfl, r, cl, na, lv, k v H1 _ n hq e1 g1 y⟩⟩
/-- a promise at an object and arguments -/
theorem sx_at {ι : Type} {ar : ι → List D} {pre : ι → Nat → Prop} {post : ι → Nat → D → Nat → Prop} {A : Addr → Prop} {H : Hp} {vs : List V} {ds : List D} {E : XK} {Q : VK} (hK : K = c.K) (a : At c A n H) (x : DXs c A H vs ds) (ka : ds.all argOk = true) (z : ι) (p2 : ds.map arg = ar z) (p3 : pre z n)
    (p4 : ∀ d m, post z n d m → outD d = true ∧ Φ d m) (k : ∀ v H2 d m, Φ d m → Ek c H H2 → Good c m H2 → DX c A H2 v d → Q v H2) : SpX K ar pre post vs H Q E :=
  ⟨z, sp_run (K := K) (pre := fun ds n => ds = ar z ∧ pre z n) (post := fun _ n d m => post z n d m) hK a x ka ⟨p2, p3⟩ p4 k⟩
theorem wp_prop {ι : Type} {ar : ι → List D} {pre : ι → Nat → Prop} {post : ι → Nat → D → Nat → Prop} {E : XK} (hK : K = c.K) (h : Wp c te ⟨sl, nn⟩ fun d n => ∃ fs, d = .ins C fs ∧ ∃ z, [D.ins C fs] = ar z ∧ pre z n ∧ ∀ d m, post z n d m → outD d = true ∧ Φ d m) : Wp c (tProp C (SpX K ar pre post) [] E te) ⟨sl, nn⟩ Φ := ⟨fun σ A H o Q k => by
  refine h.run σ A H o _ fun v H1 d n p e1 g1 x => ?_
  obtain ⟨fs, rfl, z, p2, p3, p4⟩ := p
  have o1 := o.keep e1 g1
  have x' := x
  obtain ⟨a, dx, ws, rfl, nA, r, t⟩ := x'
  exact ⟨a, dx, ws, rfl, r, sx_at (ds := [.ins C fs]) hK o1.at_ ⟨x, True.intro⟩ rfl z p2 p3 p4 fun v H2 d m q e2 g2 y => k v H2 d m q (e1.trans e2) g2 y⟩⟩
theorem wp_meth {ι : Type} {ar : ι → List D} {pre : ι → Nat → Prop} {post : ι → Nat → D → Nat → Prop} {E : XK} {m : Str} {ta : TA} (hK : K = c.K) (h : Wp c te ⟨sl, nn⟩ fun d n => ∃ fs, d = .ins C fs ∧ fs.lookup m = none ∧ Wa c ta ⟨sl, n⟩ fun ds n => ds.all argOk = true ∧ ∃ z, (D.ins C fs :: ds.map arg) = ar z ∧ pre z n ∧ ∀ d m, post z n d m → outD d = true ∧ Φ d m) :
    Wp c (tMeth C m (SpX K ar pre post) [] E te ta) ⟨sl, nn⟩ Φ := ⟨fun σ A H o Q k => by
  have nolk : ∀ {H : Hp} {ws : List (Str × V)} {fs : List (Str × PyData)}, FsR c.K A H ws fs → fs.lookup m = none → ws.lookup m = none := fun {H ws fs} t e => by
    induction ws generalizing fs with
    | nil => rfl
    | cons w ws ih =>
      cases fs with
      | nil => exact t.elim
      | cons g fs =>
        obtain ⟨e1, _, t⟩ := t
        rw [List.lookup_cons] at e ⊢
        rw [← e1] at e
        cases q : (m == w.1) with
        | true => rw [q] at e; cases e
        | false => rw [q] at e; exact ih t e
  refine h.run σ A H o _ fun v H1 d n p e1 g1 x => ?_
  obtain ⟨fs, rfl, lk, p⟩ := p
  have o1 := o.keep e1 g1
  have x' := x
  obtain ⟨a, dx, ws, rfl, nA, r, t⟩ := x'
  refine ⟨a, dx, ws, rfl, r, nolk t lk, p.run σ A H1 o1 _ fun vs H2 ds n2 p e2 g2 ys => ?_⟩
  obtain ⟨p1, z, p2, p3, p4⟩ := p
  rw [List.append_nil]
  exact sx_at (ds := .ins C fs :: ds) hK (o1.keep e2 g2).at_ ⟨x.keep e2 o.k, ys⟩ (by rw [List.all_cons, p1]; rfl) z p2 p3 p4 fun v H2 d m q e3 g3 y => k v H2 d m q ((e1.trans e2).trans e3) g3 y⟩
def Ty2 (c : Cy) (d : D) (t : Value) : Prop := ∀ (A : Addr → Prop) (H : Hp) (v : V), DX c A H v d → TyX c.K H v t
theorem ty2_b {s : String} (h : tyN d = some s) : Ty2 c d (.type s) := fun A H v x => ty_of x h
theorem ty2_l : Ty2 c .lsx (.type "list") := fun A H v x => by
  obtain ⟨a, xs, rfl, _, r⟩ := x
  exact .base (.lst r)
/-- what a class must have for isinstance -/
structure KitC (K : PySem.W.Frag) (C : Addr) : Prop where
  cl : Cls K C
  ha : PySem.W.findIn K (.ref C) "__class__" = some (some (.builtin "object.__class__"))
  hn : PySem.W.specialIn K (.builtin "object.__class__") "__get__" = some (some (.builtin "getset_descriptor.__get__"))
  ht : PySem.W.takesIn K (.builtin "object.__class__") = some true
  ob : PySem.W.mroIn K C (.type "object") = some true
  me : PySem.W.kitOne K (.ref C) (.ref C) = some true
  no : ∀ s ∈ ["NoneType", "bool", "int", "str", "list", "tuple"], PySem.W.kitOne K (.type s) (.ref C) = some false ∧ PySem.W.notFirst K C (.type s) = true
theorem ty2_i (k : KitC c.K C) : Ty2 c (.ins C fs) (.ref C) := fun A H v x => by
  obtain ⟨a, dx, ws, rfl, _, r, _⟩ := x
  exact .base (.ins r k.cl k.ha k.hn k.ht k.ob)
theorem nf_me {K : PySem.W.Frag} : PySem.W.notFirst K C (.ref C) = true := by simp [PySem.W.notFirst]
theorem cw_isiC {t : Value} {b : Bool} (hK : K = c.K) (h1 : Ty2 c d t) (h2 : PySem.W.kitOne c.K t (.ref C) = some b) (h : Φ (.py (.bool b)) n) : Cw c (rIsi K) [d, .atom (.ref C)] n Φ := ⟨fun A H vs a x Q k => by
  subst hK
  match vs, x with
  | [v, w], ⟨x1, x2, _⟩ =>
    have e : w = .ref C := x2
    subst e
    exact ⟨v, .ref C, t, .ref C, b, rfl, .own C, h1 A H v x1, h2, k _ H _ n h Ek.refl a.good (.bl _)⟩⟩
theorem cw_lenO {ι : Type} {ar : ι → List D} {pre : ι → Nat → Prop} {post : ι → Nat → D → Nat → Prop} (hK : K = c.K) (h : ∃ z, [D.ins C fs] = ar z ∧ pre z n ∧ ∀ d m, post z n d m → ∃ i : Int, d = .py (.int i) ∧ 0 ≤ i ∧ i < 2 ^ 63 ∧ Φ (.py (.int i)) m) : Cw c (rLENO C (SpX K ar pre post)) [.ins C fs] n Φ := ⟨fun A H vs a x Q k => by
  obtain ⟨v, rfl, xv⟩ : ∃ v, vs = [v] ∧ DX c A H v (.ins C fs) := by
    match vs, x with
    | [v], ⟨xv, _⟩ => exact ⟨v, rfl, xv⟩
  obtain ⟨z, p2, p3, p4⟩ := h
  have x' := xv
  obtain ⟨b, dx, ws, rfl, nA, r, t⟩ := x'
  refine ⟨b, dx, ws, rfl, r, sx_at (ds := [.ins C fs]) (Φ := fun d m => ∃ i : Int, d = .py (.int i) ∧ 0 ≤ i ∧ i < 2 ^ 63 ∧ Φ (.py (.int i)) m) hK a ⟨xv, True.intro⟩ rfl z p2 p3 (fun d m q => ?_) fun v H2 d m q e2 g2 y => ?_⟩
  · obtain ⟨i, rfl, q'⟩ := p4 d m q
    exact ⟨rfl, i, rfl, q'⟩
  · obtain ⟨i, rfl, h0, h1, q⟩ := q
    exact ⟨i, Da.int_eq y, h0, h1, k _ H2 _ m q e2 g2 (.int i)⟩⟩
theorem rw_eqO {ι : Type} {ar : ι → List D} {pre : ι → Nat → Prop} {post : ι → Nat → D → Nat → Prop} {t : Value} {ng : Bool} (hK : K = c.K) (ht : Ty2 c d2 t) (nf : PySem.W.notFirst c.K C t = true) (ok : argOk d2 = true)
    (h : ∃ z, [D.ins C fs, arg d2] = ar z ∧ pre z n ∧ ∀ d m, post z n d m → ∃ b : Bool, d = .py (.bool b) ∧ Φ (.py (.bool (if ng then !b else b))) m) : Rw c (rEQO K C ng (SpX K ar pre post)) (.ins C fs) d2 n Φ := ⟨fun A H v1 v2 a x1 x2 Q k => by
  subst hK
  obtain ⟨z, p2, p3, p4⟩ := h
  have x' := x1
  obtain ⟨b, dx, ws, rfl, nA, r, _⟩ := x'
  refine ⟨b, dx, ws, t, rfl, r, ht A H v2 x2, nf, sx_at (ds := [.ins C fs, d2]) (Φ := fun d m => ∃ b : Bool, d = .py (.bool b) ∧ Φ (.py (.bool (if ng then !b else b))) m) rfl a ⟨x1, x2, True.intro⟩ (by rw [List.all_cons, List.all_cons, ok]; rfl) z p2 p3 (fun d m q => ?_) fun v H2 d m q e2 g2 y => ?_⟩
  · obtain ⟨i, rfl, q'⟩ := p4 d m q
    exact ⟨rfl, i, rfl, q'⟩
  · obtain ⟨i, rfl, q⟩ := q
    exact ⟨i, Da.bl_eq y, k _ H2 _ m q e2 g2 (.bl _)⟩⟩
end
/-! ## the derivations -/
structure StdP (P : Program) (w : World) (K : PySem.W.Frag) (mg : Str → Option Value) (base : Heap) (k : Nat) (C : Addr) (f : Str) (sp : Sp) : Prop where
  ex : ∃ p g fd ps, PropOf K C f p g ∧ FnOk P w K mg base CX0 k g fd ps sp ∧ Binds K fd ps []
structure StdM (P : Program) (w : World) (K : PySem.W.Frag) (mg : Str → Option Value) (base : Heap) (k : Nat) (C : Addr) (m : Str) (sp : Sp) : Prop where
  ex : ∃ g fd ps, Meth K C m g ∧ FnOk P w K mg base CX0 k g fd ps sp ∧ Binds K fd ps []
structure StdI (P : Program) (w : World) (K : PySem.W.Frag) (mg : Str → Option Value) (base : Heap) (k : Nat) (C : Addr) (sp : Sp) : Prop where
  ex : ∃ f fd ps, Mk K C f ∧ FnOk P w K mg base CX0 k f fd ps sp ∧ Binds K fd ps []
section
variable {X : Cx} {k : Nat} {C : Addr} {sp : Sp} {e o : Expr} {es : List Expr} {pos apos p : Pos} {ta : TE} {t : TA} {x f m : Str}
theorem pe_propS (F : StdP X.prog X.w X.K X.mg X.base k C f sp) (c : Cls X.K C) (hr : Room (k + 1) X.A) (he : PE X e ta) (hab : attributeBase e f X.env (eval e X.env) = eval e X.env) : PE X (.Attribute e f pos) (tProp C sp [] E0 ta) := by
  obtain ⟨p, g, fd, ps, h1, h2, h3⟩ := F.ex
  exact pe_prop he c h1 h2 hr h3 .nil pass0 hab
theorem pe_methS {pl : Sem Bool} (F : StdM X.prog X.w X.K X.mg X.base k C m sp) (c : Cls X.K C) (hr : Room k X.A) (he : PE X o ta) (ha : PA X (e :: es) t) (hst : starEach (e :: es) X.env = (false, eval e X.env) :: starEach es X.env := by rfl) (hpl : (backTo pos (starEach es X.env)).any (·.1) = false := by rfl)
    (ht : eval (.Call (.Attribute o m apos) (e :: es) [] pos) X.env = (do
      let ov ← eval o X.env
      standAt apos.atName
      let (g, fst) ← holding [ov] (getMethod ov m pl)
      callWith pos g fst (backTo pos (starEach (e :: es) X.env)) (backToKw pos (keywordEach [] X.env))) := by rfl) : PE X (.Call (.Attribute o m apos) (e :: es) [] pos) (tMeth C m sp [] E0 ta t) := by
  obtain ⟨g, fd, ps, h1, h2, h3⟩ := F.ex
  exact pe_meth he c h1 h2 hr h3 .nil pass0 ha hst hpl ht
theorem pe_makeS (F : StdI X.prog X.w X.K X.mg X.base k C sp) (hm : X.mg x = some (.ref C)) (hr : Room (k + 1) X.A) (hg : Gl X x) (ha : PA X (e :: es) t) (hdb : (x == ("__debug__" : Str)) = false := by decide)
    (he : starEach (e :: es) X.env = (false, eval e X.env) :: starEach es X.env := by rfl) (hpl : (backTo pos (starEach es X.env)).any (·.1) = false := by rfl) : PE X (.Call (.Name x p) (e :: es) [] pos) (tMake C sp [] E0 t) := by
  obtain ⟨f, fd, ps, h1, h2, h3⟩ := F.ex
  exact pe_make h1 h2 hr hg hm h3 .nil pass0 ha hdb he hpl
theorem lenS (F : StdM X.prog X.w X.K X.mg X.base k C "__len__" sp) (hr : Room (k + 1) X.A) : CallR X (.builtin "len") (rLENO C sp) := by
  obtain ⟨g, fd, ps, h1, h2, h3⟩ := F.ex
  exact callLENO h2 h1.at_ h1.fn h3 hr
theorem eqS {K : PySem.W.Frag} (hK : X.K = K) (F : StdM X.prog X.w X.K X.mg X.base k C "__eq__" sp) (hr : Room k X.A) : OpR X (compareOp .Eq) (rEQO K C false sp) := by
  subst hK
  obtain ⟨g, fd, ps, h1, h2, h3⟩ := F.ex
  exact opEQO h2 h1.at_ h1.fn h3 hr
theorem neS {K : PySem.W.Frag} (hK : X.K = K) (F : StdM X.prog X.w X.K X.mg X.base k C "__eq__" sp) (hn : PySem.W.findIn X.K (.ref C) "__ne__" = some (some (.builtin "object.__ne__"))) (ho : PySem.W.mroIn X.K C (.type "object") = some true) (hr : Room (k + 1) X.A) : OpR X (compareOp .NotEq) (rEQO K C true sp) := by
  subst hK
  obtain ⟨g, fd, ps, h1, h2, h3⟩ := F.ex
  exact opNEO h2 h1.at_ h1.fn hn ho h3 hr
end
end Wx

/-! ### part Ve -/
set_option Elab.async false
set_option linter.all false
set_option maxRecDepth 100000
set_option maxHeartbeats 1000000
set_option autoImplicit false
/-! Own classes: + by an own __add__, calls by an own __call__. -/
namespace Wx
open PySem L2 PyProof.Rows
section
variable {X : Cx} {k : Nat} {C f : Addr} {fd : FuncData} {ps : List Str} {sp : Sp}
def rADDO (C : Addr) (sp : Sp) : R2 := fun x y H Q => ∃ a b dx dy fs gs, x = .ref a ∧ y = .ref b ∧ H a = some (.ins C dx fs) ∧ H b = some (.ins C dy gs) ∧ sp [.ref a, .ref b] H Q E0
theorem back_of {pins : List (Addr × Obj)} {σ : L2.St} {Q : VK} {u : Value} {s : Shared} (h : EP X pins σ Q u s) : PySem.W.CmpBack (EP X pins σ Q) u s := by
  cases u <;> first | exact h | (obtain ⟨v, H', _, r, _⟩ := h; have z := r.abs; cases z)
theorem opADDO (F : FnOk X.prog X.w X.K X.mg X.base CX0 k f fd ps sp) (hs : PySem.W.findIn X.K (.ref C) "__add__" = some (some (.ref f))) (hf : PySem.W.isFn X.K (.ref f) = true) (hc : PySem.W.selfFirst X.K C = true) (hb : Binds X.K fd ps []) (hr : Room k X.A) : OpR X (binaryOp .Add) (rADDO C sp) := by
  intro pins s σ H x y v u Q I rx ry h
  obtain ⟨a, b, dx, dy, fs, gs, rfl, rfl, ha, hb', hsp⟩ := h
  cases rx
  cases ry
  obtain ⟨mA, O, _⟩ := ins_get I.hok ha
  obtain ⟨od, J, _⟩ := O.look
  obtain ⟨mB, O', _⟩ := ins_get I.hok hb'
  obtain ⟨od', J', _⟩ := O'.look
  obtain ⟨m, hF⟩ := I.fr
  refine PySem.W.binop_K (op := .Add) hF I.ok.mod.kin J J'.type hc hs hf (wpAny_mono (run_fn (us := [.ref a, .ref b]) (vs := [.ref a, .ref b]) (dvs := []) (Q := Q) F hr hb .nil pass0 I (.cons rfl (.cons rfl .nil)) hsp) (fun v' s' z => back_of z) fun _ _ z => z)
/-- o(..), o an instance of C -/
def tCALL (C : Addr) (sp : Sp) (tf : TE) (t : TA) : TE := fun σ H Q => tf σ H fun y H1 => ∃ a, y = V.ref a ∧ t σ H1 fun vs H2 => (∃ dx fs, H2 a = some (.ins C dx fs)) ∧ sp (V.ref a :: vs) H2 Q E0
theorem pe_callX {fe e : Expr} {es : List Expr} {pos : Pos} {tf : TE} {t : TA} (hf : PE X fe tf) (c : StX.CallO X.K C f) (F : FnOk X.prog X.w X.K X.mg X.base CX0 k f fd ps sp) (hb : Binds X.K fd ps []) (hr : Room k X.A) (ha : PA X (e :: es) t)
    (ht : eval (.Call fe (e :: es) [] pos) X.env = (do callWith pos (← eval fe X.env) [] (backTo pos (starEach (e :: es) X.env)) (backToKw pos (keywordEach [] X.env))) := by rfl)
    (he : starEach (e :: es) X.env = (false, eval e X.env) :: starEach es X.env := by rfl) (hpl : (backTo pos (starEach es X.env)).any (·.1) = false := by rfl) : PE X (.Call fe (e :: es) [] pos) (tCALL C sp tf t) := by
  have R : FnR X.prog X.w X.K X.mg X.base CX0 k f sp := fun A outer s H us vs Q E r e0 rv hs => by
    have inK : X.K.In s.heap := e0.mod.kin.keeps fun b o z => (e0.bs b o z).1
    have z := hb s us inK (by rw [List.append_nil, ← rv.length]; exact F.len _ _ _ _ hs)
    rw [List.append_nil] at z
    exact F.run A outer s H ⟨us, []⟩ us vs Q E r e0 z rv hs
  constructor
  intro pins s σ H Q I h
  refine Call_ (thn (hf.run pins s σ H _ I h) fun u s1 q => ?_) ht
  obtain ⟨y, H1, I1, ry, a, rfl, q⟩ := q
  cases ry
  refine StX.callO_with (thn (ha.run pos pins s1 σ H1 _ I1 q) fun us s2 q2 => ?_) he hpl
  obtain ⟨vs, H2, I2, r, ⟨dx, fs, hi⟩, q3⟩ := q2
  obtain ⟨ox, od, J, hd⟩ := StX.insC_at I2 (.inr ⟨dx, fs, hi⟩)
  exact ⟨⟨C, ox, od, J, hd⟩, StX.run_callO c R hr pass0 I2 (.inr ⟨dx, fs, hi⟩) r q3⟩
end
section
variable {c : Cy} {sl : List Slo} {nn n : Nat} {C : Addr} {fs gs : List (Str × PyData)} {te : TE} {ta : TA} {Φ : D → Nat → Prop} {K : PySem.W.Frag}
theorem rw_addO {ι : Type} {ar : ι → List D} {pre : ι → Nat → Prop} {post : ι → Nat → D → Nat → Prop} (hK : K = c.K) (h : ∃ z, [D.ins C fs, .ins C gs] = ar z ∧ pre z n ∧ ∀ d m, post z n d m → outD d = true ∧ Φ d m) : Rw c (rADDO C (SpX K ar pre post)) (.ins C fs) (.ins C gs) n Φ := ⟨fun A H v1 v2 a x1 x2 Q k => by
  obtain ⟨z, p2, p3, p4⟩ := h
  have y1 := x1
  have y2 := x2
  obtain ⟨b, dx, ws, rfl, nA, r, _⟩ := y1
  obtain ⟨b', dx', ws', rfl, nA', r', _⟩ := y2
  exact ⟨b, b', dx, dx', ws, ws', rfl, rfl, r, r', sx_at (ds := [.ins C fs, .ins C gs]) hK a ⟨x1, x2, True.intro⟩ rfl z p2 p3 p4 k⟩⟩
theorem wp_callX {ι : Type} {ar : ι → List D} {pre : ι → Nat → Prop} {post : ι → Nat → D → Nat → Prop} (hK : K = c.K) (h : Wp c te ⟨sl, nn⟩ fun d n => ∃ fs, d = .ins C fs ∧ Wa c ta ⟨sl, n⟩ fun ds n => ds.all argOk = true ∧ ∃ z, (D.ins C fs :: ds.map arg) = ar z ∧ pre z n ∧ ∀ d m, post z n d m → outD d = true ∧ Φ d m) :
    Wp c (tCALL C (SpX K ar pre post) te ta) ⟨sl, nn⟩ Φ := ⟨fun σ A H o Q k => by
  refine h.run σ A H o _ fun v H1 d n p e1 g1 x => ?_
  obtain ⟨fs, rfl, p⟩ := p
  have o1 := o.keep e1 g1
  have y := x
  obtain ⟨a, dx, ws, rfl, nA, r, t⟩ := y
  refine ⟨a, rfl, p.run σ A H1 o1 _ fun vs H2 ds n2 p e2 g2 ys => ?_⟩
  obtain ⟨p1, z, p2, p3, p4⟩ := p
  refine ⟨⟨dx, ws, e2 a _ (fun q => nA (o.k a q)) r⟩, ?_⟩
  exact sx_at (ds := .ins C fs :: ds) hK (o1.keep e2 g2).at_ ⟨x.keep e2 o.k, ys⟩ (by rw [List.all_cons, p1]; rfl) z p2 p3 p4 fun v H2 d m q e3 g3 y => k v H2 d m q ((e1.trans e2).trans e3) g3 y⟩
end

theorem starK {X : Cx} {K : PySem.W.Frag} {e : Expr} {es : List Expr} {te : TE} {t : TA} {p : Pos} (h : X.K = K) (he : PE X e te) (ht : PA X es t) : PA X (.Starred e p :: es) (StX.tStar K te t) := h ▸ StX.pa_star he ht

section
variable {c : Cy} {sl : List Slo} {nn n : Nat} {te : TE} {t : TA} {K : PySem.W.Frag}
theorem dxs_py {A : Addr → Prop} {H : Hp} : ∀ {xs : List V} {ps : List PyData}, DaL c.K A H xs ps → DXs c A H xs (ps.map D.py)
  | _, _, .nil => True.intro
  | _, _, .cons h t => ⟨h, dxs_py t⟩
theorem DXs.app {A : Addr → Prop} {H : Hp} : ∀ {xs ys : List V} {ds es : List D}, DXs c A H xs ds → DXs c A H ys es → DXs c A H (xs ++ ys) (ds ++ es)
  | [], _, [], _, _, h => h
  | _ :: _, _, _ :: _, _, ⟨h, t⟩, u => ⟨h, DXs.app t u⟩
  | [], _, _ :: _, _, h, _ => h.elim
  | _ :: _, _, [], _, h, _ => h.elim
/-- *e among the items -/
theorem wa_star {Φ : List D → Nat → Prop} (hK : K = c.K) (h : Wp c te ⟨sl, nn⟩ fun d n => Sq d fun ps => Wa c t ⟨sl, n⟩ fun ds m => Φ (ps.map D.py ++ ds) m) : Wa c (StX.tStar K te t) ⟨sl, nn⟩ Φ := ⟨fun σ A H o Q k => by
  subst hK
  refine h.run σ A H o _ fun v H1 d n p e1 g1 x => ?_
  have o1 := o.keep e1 g1
  obtain ⟨a, xs, ps, rfl, hs, tl, p⟩ := sq_of p x
  refine ⟨a, xs, rfl, hs.symm, p.run σ A H1 o1 _ fun vs H2 ds m q e2 g2 ys => ?_⟩
  exact k (xs ++ vs) H2 _ m q (e1.trans e2) g2 ((dxs_py (tl.keep (e2.kept o.k))).app ys)⟩
theorem pys_py {ps : List PyData} {r : List D} {k : List PyData → Prop} (h : Pys r fun qs => k (ps ++ qs)) : Pys (ps.map D.py ++ r) k := by
  induction ps generalizing k with
  | nil => exact h
  | cons p ps ih => exact ih (k := fun qs => k (p :: qs)) h
end

section
variable {c : Cy} {sl : List Slo} {nn : Nat} {te : TE} {K : PySem.W.Frag} {P : Po}
def Tp2 (d : D) (k : PyData → PyData → Prop) : Prop := match d with
  | .py (.tuple [p, q]) => k p q
  | _ => False
theorem tp2_mk {p q : PyData} {k : PyData → PyData → Prop} (h : k p q) : Tp2 (.py (.tuple [p, q])) k := h
theorem ws_pair2 {i j : Nat} (hK : K = c.K) (h : Wp c te ⟨sl, nn⟩ fun d n => Tp2 d fun p q => P.nx ⟨(sl.set i (.val (.py p))).set j (.val (.py q)), n⟩) (hi : i < sl.length) (hj : j < sl.length) : Ws c (tAsg te (gTup K 2 (gCons (gName i) (gCons (gName j) gNil)))) ⟨sl, nn⟩ P := by
  refine ws_asg [i, j] (h.mono fun d n x => ?_)
  match d, x with
  | .py (.tuple [p, q]), x => exact wg_pair hK ⟨p, q, rfl, wg_name ⟨rfl, wg_name ⟨rfl, x⟩ (by show j < (sl.set i _).length; rw [List.length_set]; exact hj) (by simp)⟩ hi (by simp)⟩
end
end Wx

/-! ### part V1 -/
set_option Elab.async false
set_option linter.all false
set_option maxRecDepth 100000
set_option maxHeartbeats 1000000
set_option autoImplicit false
namespace Wx
open PySem L2
abbrev FnP (K : PySem.W.Frag) (x qual : Str) (st : Stmt) (f : Addr) (fd : FuncData) : Prop := FunD K x qual (defArgs st) (defBody st) (defScope st) [] [] f fd
theorem bt_int : bootBuiltins "int" = some (.type "int") := by decide +kernel
theorem bt_bool : bootBuiltins "bool" = some (.type "bool") := by decide +kernel
theorem bt_str : bootBuiltins "str" = some (.type "str") := by decide +kernel
theorem bt_tuple : bootBuiltins "tuple" = some (.type "tuple") := by decide +kernel
theorem bt_list : bootBuiltins "list" = some (.type "list") := by decide +kernel
theorem bt_isinstance : bootBuiltins "isinstance" = some (.builtin "isinstance") := by decide +kernel
theorem bt_max : bootBuiltins "max" = some (.builtin "max") := by decide +kernel
theorem bt_min : bootBuiltins "min" = some (.builtin "min") := by decide +kernel
theorem bt_all : bootBuiltins "all" = some (.builtin "all") := by decide +kernel
theorem bt_repr : bootBuiltins "repr" = some (.builtin "repr") := by decide +kernel
theorem bt_enumerate : bootBuiltins "enumerate" = some (.type "enumerate") := by decide +kernel
theorem bt_sum : bootBuiltins "sum" = some (.builtin "sum") := by decide +kernel
theorem bt_dict : bootBuiltins "dict" = some (.type "dict") := by decide +kernel
theorem bt_range : bootBuiltins "range" = some (.type "range") := by decide +kernel
end Wx

/-! ### part Vg -/
set_option Elab.async false
set_option linter.all false
set_option maxRecDepth 100000
set_option maxHeartbeats 1000000
set_option autoImplicit false
/-! Defs that run where nothing is being shown (no repr under way): repr of data is what it shows. -/
namespace Wx
open PySem L2 PyProof.Rows
def rREPR (K : PySem.W.Frag) : List V → Hp → VK → Prop := fun xs H Q => ∃ a d, xs = [.ref a] ∧ Dp K H (.ref a) d ∧ d.showable = true ∧ d.hasDict = false ∧ d.shown.length ≤ sizeLine ∧ d.depth ≤ 60 ∧ Q (.str d.shown) H
theorem reprK {X : Cx} {K : PySem.W.Frag} {k : Nat} (hK : X.K = K) (gd : X.A.guards = some []) (hr : Room k X.A) : CallR X (.builtin "repr") (rREPR K) := by
  subst hK
  intro pins s σ H xs us Q I r h
  obtain ⟨a, d, rfl, hd, h1, h2, h3, h4, q⟩ := h
  cases r with
  | cons r1 r2 =>
    cases r2
    cases r1
    obtain ⟨as, rd⟩ := Dp.reads I d (.ref a) (.ref a) hd rfl
    exact PySem.repr_of_reads' (h₀ := s.heap) rd h1 (fun z => by rw [h2] at z; cases z) gd (by have := hr.un; omega) (fun _ _ e => e) (fun h' u tk hk => ⟨.str d.shown, H, I.kept (t' := tk) hk, ⟨_, rfl⟩, q⟩) h3
structure FnG (P : Program) (w : World) (K : PySem.W.Frag) (mg : Str → Option Value) (base : Heap) (k : Nat) (f : Addr) (fd : FuncData) (ps : List Str) (sp : Sp) : Prop where
  len : ∀ vs H Q E, sp vs H Q E → vs.length = ps.length
  go : ∀ (A : Around) (outer : List Env) (s : Shared) (H : Hp) (args : Args) (us : List Value) (vs : List V) (Q : VK) (E : XK), Room k A → A.guards = some [] → Env0 P w K mg base A outer s H → BindsTo s fd args (ps.zip us) →
    Vals vs us → sp vs H Q E → codeAny (model P w) A (.call (.ref f) args) (CR CX0 outer P w H s Q E) s
section
variable {P : Program} {w : World} {K : PySem.W.Frag} {mg : Str → Option Value} {base : Heap} {k : Nat} {f : Addr} {fd : FuncData} {N ps : List Str} {sp : Sp} {x qual : Str} {params : Arguments} {body : List Stmt} {scope : Scope} {kws : List (Str × V)} {dvs : List V}
theorem fng_of (F : FunD K x qual params body scope dvs kws f fd) (S : FnScope N ps scope) (len : ∀ vs H Q E, sp vs H Q E → vs.length = ps.length)
    (rd : ∀ (cdv : Value) (A : Around) (outer : List Env) (s : Shared) (H : Hp) (vs : List V) (Q : VK) (E : XK), Room k (A.deeper (envOfC qual scope s.heap.objs.size f cdv)) → A.guards = some [] → sp vs H Q E →
      ∃ t, PSs (cxOf CX0 P w K mg base N qual scope f cdv A outer s H E) body t ∧ t { nx := fun _ H' => Q .non H', rt := Q } (L2.start N vs) H) : FnG P w K mg base (k + 1) f fd ps sp := by
  obtain ⟨oc, od, dV, kV, doc, pm, an, cdv, ct, osl, rfl, lk, hcd, _, _⟩ := F.ex
  constructor
  · exact len
  intro A outer s H args us vs Q E room gd e0 bt rv hsp
  have inK : K.In s.heap := e0.mod.kin.keeps fun b o z => (e0.bs b o z).1
  have nolim : s.heap.NoLimit := e0.mod.nolimit.keeps fun b o z => (e0.bs b o z).1
  have kinds : ∀ y ∈ ps.zip us, scope.names.lookup y.1 = some .local ∨ (scope.names.lookup y.1 = some .cell ∧ ((cellsFrom (s.heap.objs.size + 1) scope.names []).lookup y.1).isSome = true) := by
    rintro ⟨y, u⟩ hy
    rcases S.par y (List.of_mem_zip hy).1 with z | z
    · left; exact z
    · right; exact ⟨z, PySem.W.cellsFrom_some _ _ _ (.inl z)⟩
  refine codeAny_call_function room.depth (inK _ _ lk) rfl S.co S.gen rfl (PySem.W.codeRec_of inK hcd) (bt _ _ _ _ ?_)
  refine wpAny_newFunctionEnv_cells S.kind kinds fun env' eqE s2 started => ?_
  subst eqE
  refine ⟨nolim.keeps started.toInCall.keep, codeAny_func ?_⟩
  obtain ⟨t, dv, ht⟩ := rd cdv A outer s H vs Q E (room.deeper _) gd hsp
  have J0 : Inv (cxOf CX0 P w K mg base N qual scope f cdv A outer s H E) [] (L2.start N vs) H s2 := inv_start S room.hd e0 (len _ _ _ _ hsp) rv started
  refine wpAny_mono (dv.run [] s2 _ H _ J0 ht) (fun fl s3 post => ?_) fun _ _ z => z
  have leave : ∀ {τ : L2.St} {G : Hp} {v : V} {u : Value}, Inv (cxOf CX0 P w K mg base N qual scope f cdv A outer s H E) [] τ G s3 → RelV v u → Q v G → CE outer P w H s Q u s3 := fun {τ G v u} J r q =>
    ⟨v, G, J.os, J.bare, J.base, J.hok, r, q⟩
  cases fl with
  | next =>
    obtain ⟨τ, G, J, q⟩ := post
    exact leave (v := .non) (u := Value.none) J rfl q
  | ret u =>
    obtain ⟨v, τ, G, J, r, q⟩ := post
    exact leave J r q
  | brk => exact (post.choose_spec.choose_spec.2).elim
  | cont => exact (post.choose_spec.choose_spec.2).elim
end
structure StdG (P : Program) (w : World) (K : PySem.W.Frag) (mg : Str → Option Value) (base : Heap) (k : Nat) (x : Str) (ps : List Str) (sp : Sp) : Prop where
  ex : ∃ f fd, FnG P w K mg base k f fd ps sp ∧ mg x = some (.ref f) ∧ PySem.W.keepIn K (.ref f) = true ∧ Binds K fd ps []
theorem pe_stdG {X : Cx} {k : Nat} {x : Str} {ps : List Str} {sp : Sp} {e : Expr} {es : List Expr} {p pos : Pos} {t : TA} (F : StdG X.prog X.w X.K X.mg X.base k x ps sp) (hr : Room k X.A) (gd : X.A.guards = some []) (hg : Gl X x) (ha : PA X (e :: es) t) (hdb : (x == ("__debug__" : Str)) = false := by decide)
    (he : starEach (e :: es) X.env = (false, eval e X.env) :: starEach es X.env := by rfl) (hpl : (backTo pos (starEach es X.env)).any (·.1) = false := by rfl) : PE X (.Call (.Name x p) (e :: es) [] pos) (tCall sp [] E0 t) := by
  obtain ⟨f, fd, G, hm, kp, hb⟩ := F.ex
  constructor
  intro pins s σ H Q I h
  refine wpAny_Call_Name_kw (ld_glob I hg hm ?_ hdb)
  refine PySem.W.callWith_K (h₀ := X.base) I.ok.mod.kin kp (thn (ha.run pos pins s σ H _ I h) fun us s1 hv => ?_) he hpl
  obtain ⟨vs, H1, I1, r, q⟩ := hv
  have q1 : sp vs H1 Q E0 := by
    have q0 : sp (vs ++ []) H1 Q E0 := q
    rw [List.append_nil] at q0
    exact q0
  refine ⟨I1.kIn, wpAny_call (codeAny_mono (G.go X.A X.stack s1 H1 ⟨us, []⟩ us vs Q E0 hr gd I1.env0 (by
    have z := hb s1 us I1.kIn (by rw [List.append_nil, ← r.length]; exact G.len _ _ _ _ q1)
    rw [List.append_nil] at z
    exact z) r q1) fun res s2 z => ?_)⟩
  cases res with
  | error er => exact False.elim z
  | ok fl =>
    cases fl with
    | ret u => exact I1.after z
    | next => exact False.elim z
    | brk => exact False.elim z
    | cont => exact False.elim z

/-! ## the head -/
section
variable {P : Program} {w : World} {K : PySem.W.Frag} {mg mb : Str → Option Value} {k : Nat} {fa a : Addr} {fd : FuncData} {x : Str} {sp : Sp} {s1 : Shared} {vs : List Value} {ns : List Int}
/-- one abstract heap that holds at most the script -/
structure Stage (K : PySem.W.Frag) (P : Program) (w : World) (h : Heap) (a : Addr) (ns : List Int) (H : Hp) : Prop where
  only : Only H
  seq : SqL K H a (ns.map V.int)
  ok : HOk P w H h
  at_ : ∀ b, H b ≠ none → b = a
  out : H a ≠ none → K.lookup a = none
theorem stage (KX : K.In s1.heap) (ha : s1.heap.get? a = some { cls := .type "list", data := .seq vs.toArray }) (hi : IntsAre vs ns) (hl : ns.length ≤ sizeLine) : ∃ H, Stage K P w s1.heap a ns H := by
  have rv := vals_ints hi
  cases q : K.lookup a with
  | some o =>
    have e := KX a o q
    rw [ha] at e
    cases e
    refine ⟨fun _ => none, fun _ => .inl rfl, .inr ⟨_, vs.toArray, _, q, rfl, rfl, rfl, ?_, by simpa using rv⟩, fun b u z => (nomatch z), fun b z => absurd rfl z, fun z => absurd rfl z⟩
    rw [List.size_toArray, hi.length]
    exact hl
  | none =>
    refine ⟨upd (fun _ => none) a (.frz { cls := .type "list", data := .seq vs.toArray } (.lst (ns.map V.int))), fun b => ?_, .inl (.inr ⟨_, upd_same⟩), fun b u z => ?_, fun b z => ?_, fun _ => q⟩
    · by_cases e : b = a
      · subst e
        exact .inr ⟨_, _, upd_same⟩
      · exact .inl (upd_ne e)
    · by_cases e : b = a
      · subst e
        rw [upd_same] at z
        cases z
        exact ⟨ha, by rw [List.length_map]; exact hl, vs, _, rv, ha⟩
      · rw [upd_ne e] at z
        cases z
    · by_cases e : b = a
      · exact e
      · exact absurd (upd_ne e) z
theorem law_go (KX : K.In s1.heap) (hns : s1.heap.Ns mainGlobals mg) (hb : s1.heap.Ns builtinsNs mb) (hbb : ∀ x : Str, x ≠ "__name__" → mb x = bootBuiltins x) (hlim : s1.heap.NoLimit) (hg : s1.gens = #[])
    (ha : s1.heap.get? a = some { cls := .type "list", data := .seq vs.toArray }) (hi : IntsAre vs ns) (hl : ns.length ≤ sizeLine) (room : Room k callerA)
    (F : ∀ base : Heap, K.In base → base.Ns mainGlobals mg → FnG P w K mg base k fa fd [x] sp) (bt : ∀ (s : Shared) (u : Value), BindsTo s fd ⟨[u], []⟩ [(x, u)])
    (pr : ∀ H : Hp, Only H → SqL K H a (ns.map V.int) → sp [.ref a] H (fun v _ => v = .bl true) E0) :
    codeAny (model P w) callerA (.call (.ref fa) ⟨[.ref a], []⟩) (fun r s' => r = .ok (.ret (.bool true)) ∧ OldK s1.heap s'.heap ∧ s'.os = s1.os ∧ AllBare s'.gens) s1 := by
  obtain ⟨H, st⟩ := stage (P := P) (w := w) KX ha hi hl
  have free : ∀ {b : Addr} {o : Obj}, s1.heap.get? b = some o → (b = a → False) → H b = none := fun {b o} _ ne => Classical.byContradiction fun z => ne (st.at_ b z)
  have dicts : ∀ {b : Addr} {m : Str → Option Value}, s1.heap.Ns b m → (hidT s1.heap H).Ns b m := fun {b m} z => by
    obtain ⟨o, es, ep, e, d, r⟩ := z
    refine ⟨o, es, ep, hidT_get e (free e fun q => ?_), d, r⟩
    subst q
    rw [ha] at e
    cases e
    exact nomatch d
  have part : K.In (hidT s1.heap H) := fun b o e => hidT_get (KX b o e) (by
    by_cases z : H b = none
    · exact z
    · have q := st.at_ b z
      subst q
      rw [st.out z] at e
      cases e)
  obtain ⟨mc, c1, c2⟩ := hlim
  have env : Env0 P w K mg (hidT s1.heap H) callerA [] s1 H :=
    { frames := rfl, mod := { kin := part, glob := dicts hns, blt := ⟨mb, dicts hb, hbb⟩, nolimit := ⟨mc, dicts c1, c2⟩ }, bs := fun b o e => of_hidT e, bsz := Nat.le_of_eq (hidT_size _ _), funs := trivial, frf := fun b z => (nomatch z), hok := st.ok, bare := .of_eq hg }
  have G := F _ part (dicts hns)
  refine codeAny_mono (G.go callerA [] s1 H ⟨[.ref a], []⟩ [.ref a] [.ref a] (fun v _ => v = .bl true) E0 room rfl env (bt s1 (.ref a)) (.cons rfl .nil) (pr H st.only st.seq)) fun res s2 z => ?_
  cases res with
  | error er => exact False.elim z
  | ok fl =>
    cases fl with
    | next => exact False.elim z
    | brk => exact False.elim z
    | cont => exact False.elim z
    | ret u =>
      obtain ⟨v, G', eos, bare, un, gok, rv, ev⟩ := z
      have ev' : v = .bl true := ev
      subst ev'
      cases rv
      refine ⟨rfl, OldK.of_keep fun b o e => ?_, eos, bare⟩
      rcases st.only b with q | ⟨ob, xs, q⟩
      · exact un.keep b o e q (fun y => nomatch y) (fun y => nomatch y)
      · have q2 := un.frzs b ob _ q
        have e1 := (st.ok b _ q).1
        rw [e] at e1
        cases e1
        exact (gok b _ q2).1
theorem walk_go {l : PySem.W.OpenLaw} {n : Nat} {q : Program} {loose : List Str} {XP : (Str → Option Value) → Heap → Prop} {YP : World → Heap → Prop} {d : DefRec} (hn : l.most = some n) (hn2 : n ≤ sizeLine) (hd : d.params.defaults = []) (room : Room k callerA)
    (F : ∀ (w : World) (mg : Str → Option Value) (fa : Addr) (h : Heap), YP w h → h.Ns mainGlobals mg → mg d.name = some (.ref fa) →
      ∃ (K : PySem.W.Frag) (fd : FuncData) (sp : Sp), K.In h ∧ (∀ (s : Shared) (u : Value), BindsTo s fd ⟨[u], []⟩ [(x, u)]) ∧ (∀ (H : Hp) (a : Addr) (ns : List Int), ns.length ≤ n → Only H → SqL K H a (ns.map V.int) → sp [.ref a] H (fun v _ => v = .bl true) E0) ∧
        ∀ base : Heap, K.In base → base.Ns mainGlobals mg → FnG l.prog w K mg base k fa fd [x] sp) : PySem.W.WalkO q loose XP YP l.row.toRowW d [] (fun f vs => PySem.call f vs) := by
  apply Att.attach_call hn hd
  intro w s0 s1 mg mb fa o pm cd doc a vs ns G Y ho hdd hcd hmg hobj hints hlen hg
  obtain ⟨K, fd, sp, KX, bt, pr, hF⟩ := F w mg fa _ Y G.T.g hmg
  exact law_go KX G.T.g G.T.b G.T.builtins G.T.nolimit hg hobj hints (Nat.le_trans hlen hn2) room hF bt fun H hO hS => pr H a ns hlen hO hS
end
end Wx

/-! ### part Vr -/
set_option Elab.async false
set_option linter.all false
set_option maxRecDepth 100000
set_option maxHeartbeats 1000000
set_option autoImplicit false
/-! What can be shown, and how long it is. -/
namespace Wx
open PySem L2
structure Sh (k W : Nat) (d : PyData) : Prop where
  sh : d.showable = true
  nd : d.hasDict = false
  lv : d.leavesShort 80 = true
  dp : d.depth ≤ k
  wt : d.weight ≤ W
structure ShL (k W : Nat) (ds : List PyData) : Prop where
  sh : PyData.showableAll ds = true
  nd : PyData.hasDictAll ds = false
  lv : PyData.leavesShortAll 80 ds = true
  dp : PyData.depthAll ds ≤ k
  wt : PyData.weightAll ds ≤ W
theorem Sh.len {k W : Nat} {d : PyData} (h : Sh k W d) (hW : W ≤ 200000) : d.shown.length ≤ sizeLine := by
  have h1 := PyData.shown_le 80 (by decide) d h.lv
  have h2 := h.wt
  have e : sizeLine = 16777216 := by decide
  rw [e]
  have h3 : (80 + 2) * d.weight ≤ 82 * 200000 := Nat.mul_le_mul_left 82 (Nat.le_trans h2 hW)
  omega
theorem shl_nil {k : Nat} : ShL k 0 [] := ⟨rfl, rfl, rfl, Nat.zero_le _, Nat.le_refl _⟩
theorem shl_cons {k W V : Nat} {d : PyData} {ds : List PyData} (h : Sh k W d) (t : ShL k V ds) : ShL k (W + 1 + V) (d :: ds) := by
  refine ⟨?_, ?_, ?_, ?_, ?_⟩
  · rw [PyData.showableAll, h.sh, t.sh]; rfl
  · rw [PyData.hasDictAll, h.nd, t.nd]; rfl
  · rw [PyData.leavesShortAll, h.lv, t.lv]; rfl
  · rw [PyData.depthAll]; have := h.dp; have := t.dp; omega
  · rw [PyData.weightAll]; have := h.wt; have := t.wt; omega
theorem sh_list {k W : Nat} {ds : List PyData} (t : ShL k W ds) : Sh (k + 1) W (.list ds) :=
  ⟨by rw [PyData.showable]; exact t.sh, by rw [PyData.hasDict]; exact t.nd, by rw [PyData.leavesShort]; exact t.lv, by rw [PyData.depth]; have := t.dp; omega, by rw [PyData.weight]; exact t.wt⟩
theorem sh_tup {k W : Nat} {ds : List PyData} (t : ShL k W ds) : Sh (k + 1) W (.tuple ds) :=
  ⟨by rw [PyData.showable]; exact t.sh, by rw [PyData.hasDict]; exact t.nd, by rw [PyData.leavesShort]; exact t.lv, by rw [PyData.depth]; have := t.dp; omega, by rw [PyData.weight]; exact t.wt⟩
theorem sh_int {k : Nat} {i : Int} (h : i.natAbs < 10 ^ 70) : Sh k 240 (.int i) := by
  have b : i.natAbs.log2 < 239 := PySem.Flt.log2_lt_of (by decide) (Nat.lt_of_lt_of_le h (by decide))
  refine ⟨by rw [PyData.showable]; exact decide_eq_true (by omega), by rw [PyData.hasDict], ?_, by rw [PyData.depth]; omega, by rw [PyData.weight]; split <;> omega⟩
  rw [PyData.leavesShort]
  have e := int_text_length_le10 (k := 70) (by decide) h
  refine decide_eq_true ?_
  show (Str.ofString (toString i)).length ≤ 80
  rw [ofString_length]
  omega
theorem sh_mono {k l W V : Nat} {d : PyData} (h : Sh k W d) (h1 : k ≤ l) (h2 : W ≤ V) : Sh l V d := ⟨h.sh, h.nd, h.lv, Nat.le_trans h.dp h1, Nat.le_trans h.wt h2⟩
def smS : Src → Prop
  | .inp p => p.natAbs < 10 ^ 70
  | .lit v => v.natAbs < 10 ^ 70
theorem sh_src {s : Src} (h : smS s) : Sh 1 245 s.py := by
  have a1 : Sh 0 2 (.str (Str.ofString "in")) := ⟨rfl, rfl, by decide +kernel, by decide +kernel, by decide +kernel⟩
  have a2 : Sh 0 3 (.str (Str.ofString "lit")) := ⟨rfl, rfl, by decide +kernel, by decide +kernel, by decide +kernel⟩
  cases s with
  | inp p => exact sh_mono (sh_tup (shl_cons a1 (shl_cons (sh_int h) shl_nil))) (by decide) (by decide)
  | lit p => exact sh_mono (sh_tup (shl_cons a2 (shl_cons (sh_int h) shl_nil))) (by decide) (by decide)
theorem shl_srcs : ∀ {l : List Src}, (∀ s ∈ l, smS s) → ShL 1 (250 * l.length) (pys l)
  | [], _ => shl_nil
  | s :: l, h => by
    have t := shl_srcs (l := l) fun x hx => h x (List.mem_cons_of_mem _ hx)
    have z := shl_cons (sh_src (h s List.mem_cons_self)) t
    exact ⟨z.sh, z.nd, z.lv, z.dp, Nat.le_trans z.wt (by rw [List.length_cons]; omega)⟩
theorem sh_srcs {l : List Src} (h : ∀ s ∈ l, smS s) (hl : l.length ≤ 200) : Sh 2 50000 (srcs l) := sh_mono (sh_tup (shl_srcs h)) (by decide) (by omega)
/-! ## the rules -/
section
variable {c : Cy} {Φ : D → Nat → Prop} {n : Nat} {K : PySem.W.Frag}
def isRef : PyData → Bool
  | .list _ => true
  | .tuple _ => true
  | _ => false
theorem cw_repr {p : PyData} {k W : Nat} (hK : K = c.K) (hr : isRef p = true) (hs : Sh k W p) (h1 : k ≤ 60) (h2 : W ≤ 200000) (h : Φ (.py (.str p.shown)) n) : Cw c (rREPR K) [.py p] n Φ := ⟨fun A H vs a x Q k' => by
  subst hK
  match vs, x with
  | [v], ⟨xv, _⟩ =>
    have y : Da c.K A H v p := xv
    have hd := Da.dp y
    obtain ⟨b, rfl⟩ : ∃ b, v = .ref b := by
      cases y <;> first | exact ⟨_, rfl⟩ | cases hr
    exact ⟨b, p, rfl, hd, hs.sh, hs.nd, hs.len h2, Nat.le_trans hs.dp h1, k' _ H _ n h Ek.refl a.good (.str _)⟩⟩
theorem rw_neS {x y : Str} (h : Φ (.py (.bool (!decide (x = y)))) n) : Rw c rNe (.py (.str x)) (.py (.str y)) n Φ := ⟨fun A H v1 v2 a x1 x2 Q k => by
  cases Da.str_eq x1
  cases Da.str_eq x2
  have e : decide (V.str x = V.str y) = decide (x = y) := by
    rw [decide_eq_decide]
    exact ⟨fun z => V.str.inj z, fun z => by rw [z]⟩
  refine ⟨rfl, ?_⟩
  rw [e]
  exact k _ H _ n h Ek.refl a.good (.bl _)⟩
theorem rw_neSS {x : Str} (h : Φ (.py (.bool false)) n) : Rw c rNe (.py (.str x)) (.py (.str x)) n Φ := rw_neS (by rw [decide_eq_true rfl]; exact h)
end
end Wx

/-! ### part Vs -/
set_option Elab.async false
set_option linter.all false
set_option maxRecDepth 100000
set_option maxHeartbeats 1000000
set_option autoImplicit false
/-! More rules: sums of lists, ranges as lists, a written list that is walked, a new draws' list. -/
namespace Wx
open PySem L2
section
variable {c : Cy} {sl : List Slo} {nn : Nat} {ta tb : TE} {Φ : D → Nat → Prop} {Ψ : Ow → Nat → Prop} {K : PySem.W.Frag}
theorem Wn.keepA {te : TE} {e : En} (h : Wn c te e Ψ) : Wn c te e Ψ := h
theorem wn_cat (h : Wn c ta ⟨sl, nn⟩ fun w n => ∃ ds, w = .lst ds ∧ Wn c tb ⟨sl, n⟩ fun u m => ∃ es, u = .lst es ∧ ds.length + es.length ≤ sizeLine ∧ Ψ (.lst (ds ++ es)) m) : Wn c (tOp (rADD K) ta tb) ⟨sl, nn⟩ Ψ := ⟨fun σ A H o Q k => by
  refine h.run σ A H o _ fun p1 H1 w n q e1 g1 f1 t1 => ?_
  obtain ⟨ds, rfl, q⟩ := q
  obtain ⟨xs, r1, y1⟩ := t1
  have o1 := o.keep e1 g1
  refine q.run σ A H1 o1 _ fun p2 H2 u m q e2 g2 f2 t2 => ?_
  obtain ⟨es, rfl, hz, q⟩ := q
  obtain ⟨zs, r2, y2⟩ := t2
  have nk : c.k ≠ some p1 := fun z => o.al p1 (o.k p1 z) f1
  have r1' : H2 p1 = some (.lst xs) := e2 p1 _ nk r1
  have d1 : DaL c.K A H2 xs ds := (y1.less fun a z => .inl z).keep (e2.kept o.k)
  have d2 : DaL c.K A H2 zs es := y2.less fun a z => .inl z
  refine .inr (.inr (.inl ⟨p1, p2, xs, zs, rfl, rfl, r1', r2, by rw [d1.len, d2.len]; exact hz, fun p hp => ?_⟩))
  exact k p _ _ m q ((e1.trans e2).trans (Ek.new hp)) (g2.new hp) (fresh_of (e1.trans e2) g2 hp) ⟨xs ++ zs, upd_same, lay (d1.append d2) hp⟩⟩
def ints0 (k : Nat) : List PyData := (List.range k).map fun (i : Nat) => PyData.int (i : Int)
theorem ints0_at {k i : Nat} {xs : List Int} {d : D} {b : Int} (h : ((ints0 k ++ xs.map PyData.int).map D.py)[i]? = some d) (hb : (k : Int) ≤ b) (hx : ∀ x ∈ xs, 0 ≤ x ∧ x ≤ b) : ∃ j : Int, d = .py (.int j) ∧ 0 ≤ j ∧ j ≤ b := by
  have hm := List.mem_of_getElem? h
  obtain ⟨p, hp, rfl⟩ := List.mem_map.mp hm
  rcases List.mem_append.mp hp with q | q
  · obtain ⟨j, hj, rfl⟩ := List.mem_map.mp q
    have := List.mem_range.mp hj
    exact ⟨j, rfl, by omega, by omega⟩
  · obtain ⟨j, hj, rfl⟩ := List.mem_map.mp q
    exact ⟨j, rfl, (hx j hj).1, (hx j hj).2⟩
theorem DaL.rg {S : Addr → Prop} {H : Hp} : ∀ k : Nat, DaL K S H (rgV 0 (k : Int)) (ints0 k) := fun k => by
  have e : rgV 0 (k : Int) = (List.range k).map fun (i : Nat) => V.int (i : Int) := by
    unfold rgV
    simp
  rw [e]
  unfold ints0
  generalize List.range k = l
  induction l with
  | nil => exact .nil
  | cons i l ih => exact .cons (.int _) ih
theorem wn_lrg {ta : TE} (h : Wp c ta ⟨sl, nn⟩ fun d n => Id1 d fun j => 0 ≤ j ∧ j ≤ 1000 ∧ Ψ (.lst (ints0 j.toNat)) n) : Wn c (tLstRg (tRg1 ta)) ⟨sl, nn⟩ Ψ := ⟨fun σ A H o Q k => by
  refine h.run σ A H o _ fun v H1 d n p e1 g1 x => ?_
  obtain ⟨j, rfl, h0, h1, q⟩ := id1 p x
  refine ⟨j, rfl, ?_, fun r hr => ?_⟩
  · exact RgOk.of_le (by decide) (by omega) (by decide) h0
  · have e : j = ((j.toNat : Nat) : Int) := by omega
    refine k r _ _ n q (e1.trans (Ek.new hr)) (g1.new hr) (fresh_of e1 g1 hr) ⟨_, upd_same, ?_⟩
    rw [e]
    exact lay (DaL.rg _) hr⟩
theorem wp_catR {te : L2.St → Hp → (Int → Int → Hp → Prop) → Prop} (h : Wn c (tOp (rADD K) (tLstRg te) tb) ⟨sl, nn⟩ fun w n => Φ (outO w) n) : Wp c (tOp (rADD K) (tLstRg te) tb) ⟨sl, nn⟩ Φ := wp_new h
theorem lsi_out {m : Bool} {ds : List PyData} {k : List PyData → Prop} (h : k ds) : LsI m (outO (.lst ds)) k := h
theorem lsi_py {ds : List PyData} {m : Bool} {k : List PyData → Prop} (h : k ds) : LsI m (.py (.list ds)) k := h
theorem isRef_src (s : Src) : isRef s.py = true := by cases s <;> rfl
theorem sq_out {ds : List PyData} {k : List PyData → Prop} (h : k ds) : Sq (outO (.lst ds)) k := h
theorem pd_out {ds : List PyData} {k : PyData → Prop} (h : k (.list ds)) : Pd (outO (.lst ds)) k := h
theorem ls_out {ds : List PyData} {k : List PyData → Prop} (h : k ds) : Ls (outO (.lst ds)) k := h
/-- a list of whatever -/
theorem wp_lsx {ta : TA} (h : Wa c ta ⟨sl, nn⟩ fun ds n => ds.length ≤ sizeLine ∧ Φ .lsx n) : Wp c (tLst ta) ⟨sl, nn⟩ Φ := ⟨fun σ A H o Q k => by
  refine h.run σ A H o _ fun vs H1 ds n p e1 g1 x => ?_
  exact ⟨by rw [x.len]; exact p.1, fun r hr => k _ _ _ n p.2 (e1.trans (Ek.new hr)) (g1.new hr) ⟨r, vs, rfl, (o.keep e1 g1).fresh hr, upd_same⟩⟩⟩
theorem wp_lsx1 {i : Nat} {C : Addr} {fs : List (Str × PyData)} (h0 : sl[i]? = some (.val (.ins C fs))) (h : Φ .lsx nn) : Wp c (tLst (tCons (tVar i) tNil)) ⟨sl, nn⟩ Φ := wp_lsx (wa_cons (wp_var h0 (wa_nil ⟨by show 1 ≤ sizeLine; decide, h⟩)))
def wlk : D → Bool
  | .py _ => true
  | .ins _ _ => true
  | .lsx => true
  | .atom _ => true
  | _ => false
theorem FsR.to {K : PySem.W.Frag} {A B : Addr → Prop} {H H' : Hp} (k : Kept A H H') (w : ∀ a, B a → A a ∨ H a = none) : ∀ {vs : List (Str × V)} {fs : List (Str × PyData)}, FsR K A H vs fs → FsR K B H' vs fs
  | [], [], _ => True.intro
  | (x, v) :: r, (y, d) :: s, ⟨e, h, t⟩ => ⟨e, Da.to k w h, FsR.to k w t⟩
  | [], _ :: _, h => h.elim
  | _ :: _, [], h => h.elim
theorem DX.to {A B : Addr → Prop} {H H' : Hp} {v : V} {d : D} (k : Kept A H H') (w : ∀ a, B a → A a ∨ H a = none) (hd : wlk d = true) (x : DX c A H v d) : DX c B H' v d := by
  cases d with
  | py p => exact Da.to k w x
  | ins C fs =>
    obtain ⟨b, dx, ws, q, n, r, t⟩ := x
    exact ⟨b, dx, ws, q, fun z => (w b z).elim n (fun y => by rw [r] at y; cases y), k b _ n r, t.to k w⟩
  | lsx =>
    obtain ⟨b, ws, q, n, r⟩ := x
    exact ⟨b, ws, q, fun z => (w b z).elim n (fun y => by rw [r] at y; cases y), k b _ n r⟩
  | atom w => exact x
  | _ => cases hd
theorem DXs.at_ {A : Addr → Prop} {H : Hp} : ∀ {vs : List V} {ds : List D} {i : Nat} {v : V}, DXs c A H vs ds → vs[i]? = some v → ∃ d, ds[i]? = some d ∧ DX c A H v d
  | [], [], i, v, _, e => by simp at e
  | v :: vs, d :: ds, 0, u, ⟨h, t⟩, e => by simp at e; subst e; exact ⟨d, rfl, h⟩
  | v :: vs, d :: ds, i + 1, u, ⟨h, t⟩, e => by
    obtain ⟨d', h1, h2⟩ := DXs.at_ (i := i) t (by simpa using e)
    exact ⟨d', by simpa using h1, h2⟩
  | [], _ :: _, _, _, h, _ => h.elim
  | _ :: _, [], _, _, h, _ => h.elim
/-- for x in [a, b, ..] -/
theorem wi_lit {ta : TA} {m : Bool} {Θ : List D → Nat → Prop} (hK : K = c.K) (h : Wa c ta ⟨sl, nn⟩ fun ds n => ds.length ≤ sizeLine ∧ ds.all wlk = true ∧ Θ ds n) : Wi c m (iList K (tLst ta)) ⟨sl, nn⟩ Θ := ⟨fun σ A H o R k => by
  subst hK
  refine h.run σ A H o _ fun vs H1 ds n p e1 g1 x => ?_
  obtain ⟨p1, p2, p3⟩ := p
  have o1 := o.keep e1 g1
  refine ⟨by rw [x.len]; exact p1, fun r hr => ?_⟩
  have nA : ¬ A r := o1.fresh hr
  have e2 : Ek c H1 (upd H1 r (.lst vs)) := Ek.new hr
  have x2 : DXs c A (upd H1 r (.lst vs)) vs ds := x.keep e2 o.k
  have st : ∀ H', Kept (Mm c m σ ⟨sl, nn⟩) (upd H1 r (.lst vs)) H' → SqL c.K H' r vs := fun H' kk => SqL.of (kk r _ (fun z => nA (Mm.sub o r z)) upd_same)
  refine ⟨r, rfl, ⟨vs, SqL.of upd_same⟩, k _ _ ds n p3 (e1.trans e2) (g1.new hr) ⟨fun H' i kk hi => ?_, fun H' i kk hi => ?_, fun H' i v H'' kk hi y => ?_⟩⟩
  · rw [← x.len] at hi
    exact ⟨vs, vs[i], st H' kk, by simp [hi]⟩
  · rw [← x.len] at hi
    exact ⟨vs, st H' kk, hi⟩
  · obtain ⟨rfl, y⟩ := y
    obtain ⟨d, h1, h2⟩ := x2.at_ (y vs (st _ kk))
    exact ⟨d, h1, .inl rfl, fun B w _ _ => h2.to (kk.mono fun a z => Mm.sub o a z) w (List.all_eq_true.mp p2 d (List.mem_of_getElem? h1))⟩⟩
/-- kiln = a new draws' list -/
abbrev spKiln (K : PySem.W.Frag) : Sp := fun vs H Q _ => ∃ a ns k, vs = [.ref a, .int k] ∧ SqL K H a (List.map V.int ns) ∧ 0 ≤ k ∧ k ≤ 100 ∧
  ∀ x y p, 0 ≤ x → 0 ≤ y → y < 2 ^ 300 → H p = none → Q (.ref p) (upd H p (.lst [.int x, .int y, .int 0]))
def noK (sl : List Slo) : Bool := sl.all fun s => match s with
  | .val .kln => false
  | _ => true
theorem noK_at {sl : List Slo} (h : noK sl = true) {i : Nat} (z : sl[i]? = some (.val .kln)) : False := by
  have := List.all_eq_true.mp h _ (List.mem_of_getElem? z)
  cases this
theorem own_emp2 {σ : L2.St} {i : Nat} {a : Addr} (h : ownA σ (sl.set i .emp) a) : ownA σ sl a := by
  obtain ⟨j, ds, h1, h2⟩ := h
  by_cases q : i = j
  · subst q
    rw [List.getElem?_set] at h1
    split at h1
    · split at h1 <;> cases h1
    · rename_i z; exact absurd rfl z
  · rw [List.getElem?_set_ne q] at h1
    exact ⟨j, ds, h1, h2⟩
theorem ws_kln {K : PySem.W.Frag} {i is ik : Nat} {ns : List Int} {k : Int} {u : TS} {P : Po} (hK : K = c.K) (hn : c.k = none) (h1 : sl[is]? = some (.val (.py (.list (ns.map PyData.int))))) (h2 : sl[ik]? = some (.val (.py (.int k)))) (k0 : 0 ≤ k) (k1 : k ≤ 100) (hi : i < sl.length) (hnk : noK sl = true)
    (h : ∀ c' : Cy, c'.K = c.K → Ws c' u ⟨sl.set i (.val .kln), 0⟩ ⟨fun e' => noK (e'.sl.set i .emp) = true ∧ i < e'.sl.length ∧ P.nx ⟨e'.sl.set i .emp, nn⟩, fun d _ => (∃ p, d = .py p) ∧ P.rt d nn, fun e' => noK (e'.sl.set i .emp) = true ∧ i < e'.sl.length ∧ P.bk ⟨e'.sl.set i .emp, nn⟩, fun e' => noK (e'.sl.set i .emp) = true ∧ i < e'.sl.length ∧ P.ct ⟨e'.sl.set i .emp, nn⟩⟩) :
    Ws c (tSeq (tAsg (tCall (spKiln K) [] E0 (tCons (tVar is) (tCons (tVar ik) tNil))) (gName i)) u) ⟨sl, nn⟩ P := ⟨fun σ A H o Dn nx rt bk ct => by
  subst hK
  obtain ⟨_, v1, s1, x1⟩ := o.val is _ h1
  obtain ⟨_, v2, s2, x2⟩ := o.val ik _ h2
  cases Da.int_eq x2
  obtain ⟨a, xs, rfl, hs, t⟩ := Da.list_at x1
  have isV : ∀ {xs : List V} {ns : List Int}, DaL c.K A H xs (ns.map PyData.int) → xs = ns.map V.int := by
    intro xs
    induction xs with
    | nil =>
      intro ns h
      cases ns with
      | nil => rfl
      | cons _ _ => cases h
    | cons x xs ih =>
      intro ns h
      cases ns with
      | nil => cases h
      | cons m ns =>
        cases h with
        | cons y z =>
          cases Da.int_eq y
          rw [ih z]
          rfl
  rw [isV t] at hs
  refine ⟨.ref a, s1, .int k, s2, a, ns, k, rfl, hs, k0, k1, fun x y p hx hy hy2 hp => ?_⟩
  have nA : ¬ A p := fun z => o.al p z hp
  have nS : ¬ c.S0 p := fun z => nA (o.sub p (.inl z))
  let c' : Cy := ⟨c.K, some p, fun b => c.S0 b ∨ b = p, fun b z => .inr (Option.some.inj z).symm⟩
  have e1 : Ek c H (upd H p (.lst [.int x, .int y, .int 0])) := Ek.new hp
  have kA : Kept A H (upd H p (.lst [.int x, .int y, .int 0])) := fun b u nb q => by rw [upd_ne (ne_of_none q hp)]; exact q
  have oc : ∀ {b : Addr}, ownA (σ.set i (some (.ref p))) (sl.set i (.val .kln)) b → ownA σ sl b := fun {b} z => own_set (e := ⟨sl, nn⟩) z
  have o2 : Ok c' (fun b => A b ∨ b = p) (upd H p (.lst [.int x, .int y, .int 0])) (σ.set i (some (.ref p))) ⟨sl.set i (.val .kln), 0⟩ := by
    refine ⟨by rw [List.length_set, List.length_set]; exact o.len, ⟨fun b z => ?_, fun b z => ?_⟩, fun b z => ?_, fun b z => ?_, fun j d z => ?_, fun j w z => ?_, fun j l w w' b q1 q2 q3 q4 => ?_⟩
    · rcases z with z | z
      · exact (o.good.new hp).al b z
      · rw [z, upd_same]; exact fun q => nomatch q
    · have q : p = b := Option.some.inj z
      rw [← q]
      exact ⟨x, y, 0, upd_same, hx, hy, hy2, Int.le_refl _, Int.le_refl _⟩
    · rcases z with z | z
      · rcases z with z | z
        · exact .inl (o.sub b (.inl z))
        · exact .inr z
      · exact .inl (o.sub b (.inr (oc z)))
    · rcases z with z | z
      · cases q : H b with
        | none => exact absurd q (o.al b z)
        | some u => rw [upd_ne (ne_of_none q hp), q]; exact fun q => nomatch q
      · rw [z, upd_same]; exact fun q => nomatch q
    · by_cases q : i = j
      · subst q
        have z' : (sl.set i (Slo.val .kln))[i]? = some (Slo.val d) := z
        rw [List.getElem?_set_self hi] at z'
        cases z'
        exact ⟨rfl, .ref p, by rw [List.getElem?_set_self (by rw [o.len]; exact hi)], p, rfl, rfl⟩
      · have z' : sl[j]? = some (Slo.val d) := by rw [← List.getElem?_set_ne q]; exact z
        obtain ⟨nm, v, q1, q2⟩ := o.val j d z'
        refine ⟨nm, v, by rw [List.getElem?_set_ne q]; exact q1, ?_⟩
        have kp : Kept (fun b => A b ∨ b = p) H (upd H p (.lst [.int x, .int y, .int 0])) := fun b u nb z => kA b u (fun y => nb (.inl y)) z
        cases d with
        | py r => exact Da.keep kp (Da.apart hp q2)
        | mine r => cases nm
        | dct ds =>
          obtain ⟨b, kvs, w1, w2, w3, w4⟩ := q2
          have nb : ¬ (A b ∨ b = p) := fun z => z.elim w2 fun y => by rw [y, hp] at w3; cases w3
          exact ⟨b, kvs, w1, nb, kA b _ w2 w3, (w4.apart hp).keep kp⟩
        | dcl ds =>
          obtain ⟨b, kvs, od, w1, w2, w3, w4⟩ := q2
          have nb : ¬ (A b ∨ b = p) := fun z => z.elim w2 fun y => by rw [y, hp] at w3; cases w3
          exact ⟨b, kvs, od, w1, nb, kA b _ w2 w3, (w4.apart hp).keep kp⟩
        | brw ds =>
          obtain ⟨b, ys, w1, w2, w3, w4, w5⟩ := q2
          exact ⟨b, ys, w1, fun z => nS (by rw [Option.some.inj z]; exact w3), .inl w3, by rw [upd_ne (ne_of_none w4 hp)]; exact w4, (w5.apart hp).keep kp⟩
        | ins C fs =>
          obtain ⟨b, dx, ws, w1, w2, w3, w4⟩ := q2
          have nb : ¬ (A b ∨ b = p) := fun z => z.elim w2 fun y => by rw [y, hp] at w3; cases w3
          exact ⟨b, dx, ws, w1, nb, kA b _ w2 w3, (w4.apart hp).keep kp⟩
        | atom w => exact q2
        | kln => exact (noK_at hnk z').elim
        | lsx =>
          obtain ⟨b, ws, w1, w2, w3⟩ := q2
          have nb : ¬ (A b ∨ b = p) := fun z => z.elim w2 fun y => by rw [y, hp] at w3; cases w3
          exact ⟨b, ws, w1, nb, kA b _ w2 w3⟩
    · have q : i ≠ j := fun q => by
        subst q
        have z' : (sl.set i (Slo.val .kln))[i]? = some (Slo.own w) := z
        rw [List.getElem?_set_self hi] at z'
        cases z'
      have z' : sl[j]? = some (Slo.own w) := by rw [← List.getElem?_set_ne q]; exact z
      obtain ⟨b, q1, q2, q3⟩ := o.own j w z'
      have bp : b ≠ p := fun y => by rw [y] at q2; exact q2.al hp
      refine ⟨b, by rw [List.getElem?_set_ne q]; exact q1, (q2.apart hp).keep (fun b u nb z => kA b u (fun y => nb (.inl y)) z) fun u r => by rw [upd_ne bp]; exact r, fun z => z.elim q3 bp⟩
    · have f : ∀ {m : Nat} {g : Ow}, (sl.set i (Slo.val .kln))[m]? = some (Slo.own g) → i ≠ m := fun {m g} z q => by
        subst q
        rw [List.getElem?_set_self hi] at z
        cases z
      have e1 := f q1
      have e2 := f q2
      have q1' : sl[j]? = some (Slo.own w) := by rw [← List.getElem?_set_ne e1]; exact q1
      have q2' : sl[l]? = some (Slo.own w') := by rw [← List.getElem?_set_ne e2]; exact q2
      rw [List.getElem?_set_ne e1] at q3
      rw [List.getElem?_set_ne e2] at q4
      exact o.sep j l w w' b q1' q2' q3 q4
  have kpb : ∀ {H' : Hp}, Kp c' (σ.set i (some (.ref p))) ⟨sl.set i (.val .kln), 0⟩ (upd H p (.lst [.int x, .int y, .int 0])) H' → Kp c σ ⟨sl, nn⟩ H H' := fun {H'} kp b u nb z =>
    kp b u (fun w => w.elim (fun w => ne_of_none z hp (Option.some.inj w).symm) fun w => nb (.inr (oc w))) (by rw [upd_ne (ne_of_none z hp)]; exact z)
  have okb : ∀ {σ' : L2.St} {A' : Addr → Prop} {H' : Hp} {e' : En}, noK (e'.sl.set i .emp) = true → Ok c' A' H' σ' e' → Ok c A' H' σ' ⟨e'.sl.set i .emp, nn⟩ := fun {σ' A' H' e'} hno o' => by
    refine ⟨by rw [List.length_set]; exact o'.len, ⟨fun b z => o'.good.al b (.inl z), fun b z => by rw [hn] at z; cases z⟩, fun b z => ?_, o'.al, fun j d z => ?_, fun j w z => ?_, fun j l w w' b q1 q2 q3 q4 => ?_⟩
    · rcases z with z | z
      · exact o'.sub b (.inl (.inl z))
      · exact o'.sub b (.inr (own_emp2 z))
    · have q : i ≠ j := fun q => by
        subst q
        have z' : (e'.sl.set i Slo.emp)[i]? = some (Slo.val d) := z
        rw [List.getElem?_set] at z'
        rw [if_pos rfl] at z'
        split at z' <;> cases z'
      have z0 : (e'.sl.set i Slo.emp)[j]? = some (Slo.val d) := z
      have z' : e'.sl[j]? = some (Slo.val d) := by rw [← List.getElem?_set_ne q]; exact z
      obtain ⟨nm, v, q1, q2⟩ := o'.val j d z'
      refine ⟨nm, v, q1, ?_⟩
      cases d with
      | py r => exact q2
      | mine r => cases nm
      | dct ds => exact q2
      | dcl ds => exact q2
      | brw ds =>
        obtain ⟨b, ys, w1, w2, w3, w4, w5⟩ := q2
        have w3' : c.S0 b := w3.resolve_right fun y => w2 (by rw [y])
        exact ⟨b, ys, w1, (fun y => by rw [hn] at y; cases y), w3', w4, w5⟩
      | ins C fs => exact q2
      | atom w => exact q2
      | kln => exact (noK_at hno z0).elim
      | lsx => exact q2
    · have q : i ≠ j := fun q => by
        subst q
        have z' : (e'.sl.set i Slo.emp)[i]? = some (Slo.own w) := z
        rw [List.getElem?_set] at z'
        rw [if_pos rfl] at z'
        split at z' <;> cases z'
      have z' : e'.sl[j]? = some (Slo.own w) := by rw [← List.getElem?_set_ne q]; exact z
      obtain ⟨b, q1, q2, q3⟩ := o'.own j w z'
      exact ⟨b, q1, q2, fun z => q3 (.inl z)⟩
    · have f : ∀ {m : Nat} {g : Ow}, (e'.sl.set i Slo.emp)[m]? = some (Slo.own g) → e'.sl[m]? = some (Slo.own g) := fun {m g} z => by
        by_cases q : i = m
        · subst q
          rw [List.getElem?_set, if_pos rfl] at z
          split at z <;> cases z
        · rw [← List.getElem?_set_ne q]; exact z
      exact o'.sep j l w w' b (f q1) (f q2) q3 q4
  have back : ∀ {kk : En → Prop} {F : L2.St → Hp → Prop}, Gx c σ H ⟨sl, nn⟩ kk F → Gx c' (σ.set i (some (.ref p))) (upd H p (.lst [.int x, .int y, .int 0])) ⟨sl.set i (.val .kln), 0⟩ (fun e' => noK (e'.sl.set i .emp) = true ∧ i < e'.sl.length ∧ kk ⟨e'.sl.set i .emp, nn⟩) F := fun {kk F} G σ' A' H' e' q kp w o' =>
    G σ' A' H' ⟨e'.sl.set i .emp, nn⟩ q.2.2 (kpb kp) (fun b z => (w b (own_emp2 z)).elim (fun y => .inl (oc y)) fun y => .inr (by
      by_cases e : b = p
      · rw [e]; exact hp
      · rw [upd_ne e] at y; exact y)) (okb q.1 o')
  exact (h c' rfl).run _ _ _ o2 Dn (back nx) (fun v H' d m q kp g' x' => by
    obtain ⟨⟨r, rfl⟩, q⟩ := q
    exact rt v H' (.py r) nn q (kpb kp) ⟨fun b z => g'.al b (.inl z), fun b z => by rw [hn] at z; cases z⟩ (Da.less (fun b z => .inl z) x')) (back bk) (back ct)⟩
end
end Wx

/-! ### part Vh -/
set_option Elab.async false
set_option linter.all false
set_option maxRecDepth 100000
set_option maxHeartbeats 1000000
set_option autoImplicit false
/-! Lists of instances: made by a comprehension, unpacked at once. -/
namespace Wx
open PySem L2
structure Dw (c : Cy) (A : Addr → Prop) (H : Hp) (xs : List V) (ds : List D) : Prop where
  x : DXs c A H xs ds
  w : ds.all wlk = true
section
variable {c : Cy} {A B : Addr → Prop} {H H' : Hp} {xs : List V} {ds : List D}
theorem DXs.map_ {A' : Addr → Prop} (f : ∀ (v : V) (d : D), wlk d = true → DX c A H v d → DX c A' H' v d) : ∀ {xs : List V} {ds : List D}, ds.all wlk = true → DXs c A H xs ds → DXs c A' H' xs ds
  | [], [], _, _ => True.intro
  | v :: vs, d :: ds, w, ⟨h, t⟩ => by
    rw [List.all_cons, Bool.and_eq_true] at w
    exact ⟨f v d w.1 h, DXs.map_ f w.2 t⟩
  | [], _ :: _, _, h => h.elim
  | _ :: _, [], _, h => h.elim
theorem Dw.keep (k : Kept A H H') (h : Dw c A H xs ds) : Dw c A H' xs ds := ⟨h.x.map_ (fun v d w x => DX.to k (fun a z => .inl z) w x) h.w, h.w⟩
theorem Dw.less (w : ∀ a, B a → A a) (h : Dw c A H xs ds) : Dw c B H xs ds := ⟨h.x.map_ (fun v d q x => DX.to Kept.refl (fun a z => .inl (w a z)) q x) h.w, h.w⟩
theorem Dw.len (h : Dw c A H xs ds) : xs.length = ds.length := h.x.len
theorem Dw.snoc {v : V} {d : D} (h : Dw c A H xs ds) (x : DX c A H v d) (w : wlk d = true) : Dw c A H (xs ++ [v]) (ds ++ [d]) := ⟨h.x.app ⟨x, True.intro⟩, by rw [List.all_append, h.w]; show (wlk d && true) = true; rw [w]; rfl⟩
end
structure Wl (c : Cy) (te : TE) (e : En) (Φ : List D → Nat → Prop) : Prop where
  run : ∀ (σ : L2.St) (A : Addr → Prop) (H : Hp), Ok c A H σ e → ∀ Q : VK, (∀ p H2 vs ds n, Φ ds n → Ek c H H2 → Good c n H2 → H p = none → H2 p = some (.lst vs) → Dw c A H2 vs ds → Q (.ref p) H2) → te σ H Q
section
variable {c : Cy} {e : En} {A : Addr → Prop} {H : Hp} {σ : L2.St}
theorem wl_lc {sl : List Slo} {nn : Nat} {wi : TI} {g : TG} {tt : TT} {te : TE} {vs : List Nat} {Ψ : List D → Nat → Prop} (hv : ∀ v ∈ vs, v < sl.length)
    (h : Wi c false wi ⟨sl, nn⟩ fun its n => ∃ I : Nat → List D → Nat → Prop, I 0 [] n ∧ its.length < 10000000 ∧
      (∀ i acc m d, its[i]? = some d → I i acc m → Wg c g vs d ⟨wipeE sl vs, m⟩ fun e2 => Wt c tt e2 fun b m2 => (b = true → Wp c te ⟨e2.sl, m2⟩ fun d' m3 => wlk d' = true ∧ I (i + 1) (acc ++ [d']) m3) ∧ (b = false → I (i + 1) acc m2)) ∧
      ∀ acc m, I its.length acc m → Ψ acc m) : Wl c (tLc wi g tt te vs) ⟨sl, nn⟩ Ψ := ⟨fun σ A H o Q k => by
  refine h.run σ A H o _ fun J H1 its n p e1 g1 gv D hD => ?_
  obtain ⟨I, i0, il, is, iz⟩ := p
  have o1 := o.keep e1 g1
  have oD : ∀ (m : Nat), Good c m H1 → Ok c (fun a => A a ∨ a = D) (upd H1 D (.lst [])) (wipe σ vs) ⟨wipeE sl vs, m⟩ := fun m gm => by
    have ow := (o1.keep (n := m) Ek.refl gm).wipes (vs := vs) hv
    refine ⟨ow.len, gm.new hD, fun a z => .inl (ow.sub a z), fun a z => ?_, fun i d z => ?_, fun i ds z => ?_, ow.sep⟩
    · by_cases q : a = D
      · rw [q, upd_same]; exact fun w => nomatch w
      · rw [upd_ne q]; exact ow.al a (z.elim id fun w => absurd w q)
    · obtain ⟨nm, v, h1, h2⟩ := ow.val i d z
      exact ⟨nm, v, h1, (h2.apart hD).keep (Ek.new hD) fun a w => .inl (o.k a w)⟩
    · obtain ⟨b, h1, h3, h4⟩ := ow.own i ds z
      exact ⟨b, h1, (h3.apart hD).keep (Ek.kept (Ek.new hD) fun a w => .inl (o.k a w)) fun u r => by rw [upd_ne (ne_of_none r hD)]; exact r, h4⟩
  refine ⟨fun i m H' => m = its.length - i ∧ i ≤ its.length ∧ ∃ acc xs nn, I i acc nn ∧ acc.length ≤ i ∧ H' D = some (.lst xs) ∧ Dw c (fun a => A a ∨ a = D) H' xs acc ∧ Ok c (fun a => A a ∨ a = D) H' (wipe σ vs) ⟨wipeE sl vs, nn⟩ ∧ Ek c H1 H' ∧ Good c nn H',
    ⟨its.length, rfl, Nat.zero_le _, [], [], n, i0, Nat.le_refl _, upd_same, ⟨True.intro, rfl⟩, oD n g1, Ek.new hD, g1.new hD⟩, ?_⟩
  rintro i m H' ⟨rfl, hi, acc, xs, nn, hI, hac, hDx, t, o', ek, gn⟩
  have hM : Kept (Mm c false σ ⟨sl, nn⟩) H1 H' := ek.mono fun a z => .inl z
  by_cases hl : i < its.length
  · right
    refine ⟨gv.go H' i hM hl, fun H2 => i + 1 ≤ its.length ∧ ∃ acc xs nn, I (i + 1) acc nn ∧ acc.length ≤ i + 1 ∧ H2 D = some (.lst xs) ∧ Dw c (fun a => A a ∨ a = D) H2 xs acc ∧ Ok c (fun a => A a ∨ a = D) H2 (wipe σ vs) ⟨wipeE sl vs, nn⟩ ∧ Ek c H1 H2 ∧ Good c nn H2,
      fun H2 ⟨q1, q2⟩ => ⟨its.length - (i + 1), by omega, rfl, q1, q2⟩, fun x H'' y => ?_⟩
    obtain ⟨d, hd, st, dx⟩ := gv.yld H' i x H'' hM hl y
    have ks : Ek c H' H'' := st.kept
    have gs : Good c nn H'' := st.good gn
    have o2 := o'.keep ks gs
    have dd := dx (fun a => A a ∨ a = D) (fun a z => z.elim .inl fun q => .inr (by rw [q]; exact hD)) o'.al fun a z => .inl (o.sub a (.inl z))
    refine (is i acc nn d hd hI).run _ _ H'' x o2 dd _ fun σ2 e2 wt o3 ap wo => ?_
    refine ⟨wipe_apt ap, wt.run σ2 _ H'' o3 _ fun b H3 m2 p2 e3 g3 => ?_⟩
    have o4 := o3.keep e3 g3
    have nD : c.k ≠ some D := fun z => o1.al D (o.k D z) hD
    have d3 : H3 D = some (.lst xs) := e3 D _ nD (ks D _ nD hDx)
    have back : ∀ {H4 : Hp} {m3 : Nat}, Ek c H'' H4 → Good c m3 H4 → Ok c (fun a => A a ∨ a = D) H4 (wipe σ vs) ⟨wipeE sl vs, m3⟩ := fun {H4 m3} ee gg => (o2.keep ee gg)
    cases b with
    | false =>
      refine iteF ⟨hl, acc, xs, m2, p2.2 rfl, by omega, d3, (t.keep (Ek.kept ks o'.k)).keep (Ek.kept e3 o'.k), back e3 g3, (ek.trans ks).trans e3, g3⟩
    | true =>
      refine iteT ((p2.1 rfl).run σ2 _ H3 o4 _ fun v H4 d' m3 p3 e4 g4 xv => ?_)
      obtain ⟨hw, p3⟩ := p3
      have d4 : H4 D = some (.lst xs) := e4 D _ nD d3
      have tx : Dw c (fun a => A a ∨ a = D) H4 xs acc := ((t.keep (Ek.kept ks o'.k)).keep (Ek.kept e3 o'.k)).keep (Ek.kept e4 o'.k)
      have kA : Kept (fun a => A a ∨ a = D) H4 (upd H4 D (.lst (xs ++ [v]))) := fun a u nn q => by rw [upd_ne fun z => nn (.inr z)]; exact q
      have o5 := back (e3.trans e4) g4
      have g5 : Good c m3 (upd H4 D (.lst (xs ++ [v]))) := ⟨fun b z => by
        by_cases q : b = D
        · rw [q, upd_same]; exact fun w => nomatch w
        · rw [upd_ne q]; exact g4.al b z, fun b z => by
        rw [upd_ne fun q => nD (by rw [← q]; exact z)]; exact g4.kl b z⟩
      refine ⟨xs, d4, by rw [tx.len]; exact Nat.lt_of_le_of_lt hac (Nat.lt_of_lt_of_le (Nat.lt_trans hl il) (by decide)), hl, acc ++ [d'], xs ++ [v], m3, p3, by rw [List.length_append]; show acc.length + 1 ≤ i + 1; omega, upd_same, (tx.snoc xv hw).keep kA, ?_, ?_, g5⟩
      · refine ⟨o5.len, g5, o5.sub, fun a z => ?_, fun j w z => ?_, fun j es z => ?_, o5.sep⟩
        · by_cases q : a = D
          · rw [q, upd_same]; exact fun w => nomatch w
          · rw [upd_ne q]; exact o5.al a z
        · obtain ⟨nm, y, y1, y2⟩ := o5.val j w z
          refine ⟨nm, y, y1, ?_⟩
          cases w with
          | py p => exact Da.keep kA y2
          | mine ds => cases nm
          | dct es =>
            obtain ⟨b, kvs, w1, w2, w3, w4⟩ := y2
            exact ⟨b, kvs, w1, w2, kA b _ w2 w3, w4.keep kA⟩
          | dcl es =>
            obtain ⟨b, kvs, od, w1, w2, w3, w4⟩ := y2
            exact ⟨b, kvs, od, w1, w2, kA b _ w2 w3, w4.keep kA⟩
          | brw es =>
            obtain ⟨b, ys, w1, w2, w3, w4, w5⟩ := y2
            exact ⟨b, ys, w1, w2, w3, by rw [upd_ne fun z => o1.good.al b w3 (by rw [z]; exact hD)]; exact w4, w5.keep kA⟩
          | ins C fs =>
            obtain ⟨b, dx, vs, w1, w2, w3, w4⟩ := y2
            exact ⟨b, dx, vs, w1, w2, kA b _ w2 w3, w4.keep kA⟩
          | atom w => exact y2
          | kln => exact y2
          | lsx =>
            obtain ⟨b, ys, w1, w2, w3⟩ := y2
            exact ⟨b, ys, w1, w2, kA b _ w2 w3⟩
        · obtain ⟨b, y1, y3, y4⟩ := o5.own j es z
          have ob : ownA σ sl b := wipe_own (e := ⟨sl, nn⟩) ⟨j, es, z, y1⟩
          exact ⟨b, y1, y3.keep kA fun u r => by rw [upd_ne fun q => o1.al D (by rw [← q]; exact o.sub b (.inr ob)) hD]; exact r, y4⟩
      · refine fun a u nn q => ?_
        rw [upd_ne (ne_of_none q hD)]
        exact e4 a u nn (e3 a u nn (ks a u nn (ek a u nn q)))
  · left
    have q : i = its.length := by omega
    subst q
    exact ⟨gv.stop H' _ hM (Nat.le_refl _), k D H' xs acc nn (iz acc nn hI) (e1.trans ek) gn (fresh_of e1 g1 hD) hDx (t.less fun a z => .inl z)⟩⟩
end

section
variable {c : Cy} {sl : List Slo} {nn : Nat} {te : TE} {K : PySem.W.Frag} {P : Po}
/-- a, b, d = a list of three -/
theorem ws_unl3 {i j l : Nat} (hK : K = c.K) (h : Wl c te ⟨sl, nn⟩ fun ds n => ∃ d1 d2 d3, ds = [d1, d2, d3] ∧ P.nx ⟨((sl.set i (.val d1)).set j (.val d2)).set l (.val d3), n⟩) (hi : i < sl.length) (hj : j < sl.length) (hl : l < sl.length) :
    Ws c (tAsg te (gUnl K 3 (gCons (gName i) (gCons (gName j) (gCons (gName l) gNil))))) ⟨sl, nn⟩ P := ⟨fun σ A H o Dn nx _ _ _ => by
  subst hK
  refine h.run σ A H o _ fun p H2 vs ds n q e2 g2 hp hP dw => ?_
  obtain ⟨d1, d2, d3, rfl, q⟩ := q
  have o2 := o.keep e2 g2
  have nm : ∀ {d : D}, wlk d = true → d.nm = true := fun {d} w => by cases d <;> first | rfl | cases w
  have w := dw.w
  simp only [List.all_cons, List.all_nil, Bool.and_true, Bool.and_eq_true] at w
  obtain ⟨w1, w2, w3⟩ := w
  match vs, dw.x, hP with
  | [v1, v2, v3], ⟨x1, x2, x3, _⟩, hP =>
    have o3 := ((o2.set_ (v := v1) hi (nm w1) x1).set_ (i := j) (v := v2) (by show j < (sl.set i _).length; rw [List.length_set]; exact hj) (nm w2) x2).set_ (i := l) (v := v3) (by show l < ((sl.set i _).set j _).length; rw [List.length_set, List.length_set]; exact hl) (nm w3) x3
    exact ⟨p, [v1, v2, v3], rfl, SqL.of hP, rfl, v1, [v2, v3], rfl, v2, [v3], rfl, v3, [], rfl, ⟨rfl, nx _ A H2 _ q (Kp.ek e2) (fun a z => .inl (own_set (e := ⟨sl, n⟩) (own_set (e := ⟨sl.set i (.val d1), n⟩) (own_set (e := ⟨(sl.set i (.val d1)).set j (.val d2), n⟩) z)))) o3⟩⟩⟩
end
section
variable {X : Cx} {K : PySem.W.Frag} {k : Nat} {C : Addr} {sp : Sp}
theorem gunlK {es : List Expr} {m : Nat} {t : TGs} {n : Nat} {pos : Pos} (e : X.K = K) (hc : X.calm = true) (h : PGs X es t) (hn : (assignEach es X.env).length = n := by rfl) (hst : (assignEach es X.env).findIdx? (·.1) = none := by rfl) : PG X (.Tuple es m pos) (gUnl K n t) := e ▸ pg_unl hc h hn hst
structure StdC (P : Program) (w : World) (K : PySem.W.Frag) (mg : Str → Option Value) (base : Heap) (k : Nat) (C : Addr) (sp : Sp) : Prop where
  ex : ∃ g fd ps, StX.CallO K C g ∧ FnOk P w K mg base CX0 k g fd ps sp ∧ Binds K fd ps []
theorem pe_callZ {fe e : Expr} {es : List Expr} {pos : Pos} {tf : TE} {t : TA} (F : StdC X.prog X.w X.K X.mg X.base k C sp) (hr : Room k X.A) (hf : PE X fe tf) (ha : PA X (e :: es) t)
    (ht : eval (.Call fe (e :: es) [] pos) X.env = (do callWith pos (← eval fe X.env) [] (backTo pos (starEach (e :: es) X.env)) (backToKw pos (keywordEach [] X.env))) := by rfl)
    (he : starEach (e :: es) X.env = (false, eval e X.env) :: starEach es X.env := by rfl) (hpl : (backTo pos (starEach es X.env)).any (·.1) = false := by rfl) : PE X (.Call fe (e :: es) [] pos) (tCALL C sp tf t) := by
  obtain ⟨g, fd, ps, h1, h2, h3⟩ := F.ex
  exact pe_callX hf h1 h2 h3 hr ha ht he hpl
theorem addS (F : StdM X.prog X.w X.K X.mg X.base k C "__add__" sp) (hc : PySem.W.selfFirst X.K C = true) (hr : Room k X.A) : OpR X (binaryOp .Add) (rADDO C sp) := by
  obtain ⟨g, fd, ps, h1, h2, h3⟩ := F.ex
  exact opADDO h2 h1.at_ h1.fn hc h3 hr
end
theorem ixd_out {ds : List PyData} {i : Int} {k : PyData → Prop} (h : ∃ d, atI ds i = some d ∧ k d) : Ixd (outO (.lst ds)) (.py (.int i)) k := h
theorem lend_out {ds : List PyData} {k : Int → Prop} (h : k ds.length) : Lend (outO (.lst ds)) k := h
end Wx

/-! ### part Wd -/
set_option Elab.async false
set_option linter.all false
set_option maxRecDepth 100000
set_option maxHeartbeats 1000000
set_option autoImplicit false
/-! Own dicts with int or text keys; index of a list of ints. -/
namespace Wx
open PySem L2
/-! ## tables of data -/
def valP (ds : List (Key × PyData)) (k : Key) : Option PyData := (ds.find? fun kv => decide (kv.1 = k)).map (·.2)
def putP (ds : List (Key × PyData)) (k : Key) (p : PyData) : List (Key × PyData) :=
  if (ds.any fun kv => decide (kv.1 = k)) = true then ds.map (fun kv => if kv.1 = k then (kv.1, p) else kv) else ds ++ [(k, p)]
theorem valP_nil {k : Key} : valP [] k = none := rfl
theorem valP_pos {p : Key × PyData} {r : List (Key × PyData)} {k : Key} (e : p.1 = k) : valP (p :: r) k = some p.2 := by simp [valP, List.find?_cons, e]
theorem valP_neg {p : Key × PyData} {r : List (Key × PyData)} {k : Key} (e : ¬ p.1 = k) : valP (p :: r) k = valP r k := by simp [valP, List.find?_cons, e]
theorem valP_any (k : Key) : ∀ ds : List (Key × PyData), (ds.any fun kv => decide (kv.1 = k)) = (valP ds k).isSome
  | [] => rfl
  | p :: r => by
    rw [List.any_cons]
    by_cases e : p.1 = k
    · simp only [valP_pos e, decide_eq_true e, Bool.true_or, Option.isSome_some]
    · rw [valP_neg e, decide_eq_false e, Bool.false_or]; exact valP_any k r
theorem valP_map (k j : Key) (y : PyData) : ∀ ds : List (Key × PyData), valP (ds.map fun kv => if kv.1 = k then (kv.1, y) else kv) j = (valP ds j).map fun x => if j = k then y else x
  | [] => rfl
  | p :: r => by
    have ih := valP_map k j y r
    rw [List.map_cons]
    by_cases h : p.1 = k
    · rw [if_pos h]
      by_cases e : p.1 = j
      · rw [valP_pos (p := (p.1, y)) e, valP_pos e, Option.map_some, if_pos (e.symm.trans h)]
      · rw [valP_neg (p := (p.1, y)) e, valP_neg e, ih]
    · rw [if_neg h]
      by_cases e : p.1 = j
      · rw [valP_pos (p := p) e, valP_pos e, Option.map_some, if_neg (fun z => h (e.trans z))]
      · rw [valP_neg (p := p) e, valP_neg e, ih]
theorem valP_snoc (k j : Key) (y : PyData) : ∀ ds : List (Key × PyData), valP ds k = none → valP (ds ++ [(k, y)]) j = if j = k then some y else valP ds j
  | [], _ => by
    by_cases e : k = j
    · rw [if_pos e.symm]; exact valP_pos (p := (k, y)) e
    · rw [if_neg (fun z => e z.symm)]; exact valP_neg (p := (k, y)) e
  | p :: r, hn => by
    rw [List.cons_append]
    have hk : ¬ p.1 = k := fun z => by rw [valP_pos z] at hn; cases hn
    rw [valP_neg hk] at hn
    have ih := valP_snoc k j y r hn
    by_cases e : p.1 = j
    · rw [valP_pos e, valP_pos e, if_neg (fun z => hk (e.trans z))]
    · rw [valP_neg e, valP_neg e, ih]
theorem valP_put (ds : List (Key × PyData)) (k j : Key) (y : PyData) : valP (putP ds k y) j = if j = k then some y else valP ds j := by
  unfold putP
  by_cases a : (ds.any fun kv => decide (kv.1 = k)) = true
  · rw [if_pos a, valP_map]
    rw [valP_any] at a
    by_cases e : j = k
    · obtain ⟨x, hx⟩ := Option.isSome_iff_exists.mp a
      rw [if_pos e, e, hx, Option.map_some, if_pos rfl]
    · rw [if_neg e]
      cases valP ds j with
      | none => rfl
      | some x => rw [Option.map_some, if_neg e]
  · rw [if_neg a, valP_snoc]
    rw [valP_any] at a
    cases h : valP ds k with
    | none => rfl
    | some x => rw [h] at a; exact absurd rfl a
theorem putP_len (ds : List (Key × PyData)) (k : Key) (y : PyData) : (putP ds k y).length ≤ ds.length + 1 := by
  unfold putP
  split
  · rw [List.length_map]; omega
  · rw [List.length_append]; exact Nat.le_refl _
section
variable {K : PySem.W.Frag} {S : Addr → Prop} {H : Hp}
theorem KvR.len : ∀ {kvs : List (Key × V)} {ds : List (Key × PyData)}, KvR K S H kvs ds → kvs.length = ds.length
  | [], [], _ => rfl
  | (x, v) :: r, (y, d) :: s, ⟨e, h, t⟩ => by rw [List.length_cons, List.length_cons, KvR.len t]
  | [], _ :: _, h => h.elim
  | _ :: _, [], h => h.elim
theorem KvR.get (k : Key) : ∀ {kvs : List (Key × V)} {ds : List (Key × PyData)}, KvR K S H kvs ds → (valP ds k = none ∧ valV kvs k = none) ∨ ∃ p v, valP ds k = some p ∧ valV kvs k = some v ∧ Da K S H v p
  | [], [], _ => .inl ⟨rfl, rfl⟩
  | (x, v) :: r, (y, d) :: s, ⟨e, h, t⟩ => by
    subst e
    by_cases q : x = k
    · exact .inr ⟨d, v, valP_pos q, valV_pos q, h⟩
    · rw [valP_neg (p := (x, d)) q, valV_neg (p := (x, v)) q]
      exact KvR.get k t
  | [], _ :: _, h => h.elim
  | _ :: _, [], h => h.elim
theorem KvR.map_ {k : Key} {v : V} {p : PyData} (h : Da K S H v p) : ∀ {kvs : List (Key × V)} {ds : List (Key × PyData)}, KvR K S H kvs ds → KvR K S H (kvs.map fun kv => if kv.1 = k then (kv.1, v) else kv) (ds.map fun kv => if kv.1 = k then (kv.1, p) else kv)
  | [], [], _ => True.intro
  | (x, w) :: r, (y, d) :: s, ⟨e, hw, t⟩ => by
    subst e
    rw [List.map_cons, List.map_cons]
    by_cases q : x = k
    · rw [if_pos q, if_pos q]
      exact ⟨rfl, h, KvR.map_ h t⟩
    · rw [if_neg q, if_neg q]
      exact ⟨rfl, hw, KvR.map_ h t⟩
  | [], _ :: _, h => h.elim
  | _ :: _, [], h => h.elim
theorem KvR.snoc {k : Key} {v : V} {p : PyData} (h : Da K S H v p) : ∀ {kvs : List (Key × V)} {ds : List (Key × PyData)}, KvR K S H kvs ds → KvR K S H (kvs ++ [(k, v)]) (ds ++ [(k, p)])
  | [], [], _ => ⟨rfl, h, True.intro⟩
  | (x, w) :: r, (y, d) :: s, ⟨e, hw, t⟩ => ⟨e, hw, KvR.snoc h t⟩
  | [], _ :: _, h => h.elim
  | _ :: _, [], h => h.elim
theorem KvR.put {k : Key} {v : V} {p : PyData} {kvs : List (Key × V)} {ds : List (Key × PyData)} (h : Da K S H v p) (t : KvR K S H kvs ds) : KvR K S H (putK kvs k v) (putP ds k p) := by
  unfold putK putP
  rw [valV_any, valP_any]
  rcases t.get k with ⟨a, b⟩ | ⟨q, u, a, b, _⟩
  · rw [a, b, if_neg (by simp), if_neg (by simp)]
    exact t.snoc h
  · rw [a, b, if_pos (by simp), if_pos (by simp)]
    exact t.map_ h
end
/-! ## the rules -/
section
variable {c : Cy} {sl : List Slo} {nn n : Nat} {te ty tv : TE} {Φ : D → Nat → Prop} {Ψ : Ow → Nat → Prop} {P : Po} {K : PySem.W.Frag}
theorem wn_dnew (h : Ψ (.dct []) nn) : Wn c tDNewK ⟨sl, nn⟩ Ψ := ⟨fun σ A H o Q k => fun p hp => k p _ (.dct []) nn h (Ek.new hp) (o.good.new hp) hp ⟨[], upd_same, True.intro⟩⟩
/-- a key: an int or a text -/
def KeyD (d : D) (k : Key → Prop) : Prop := match d with
  | .py (.int i) => k (.inl i)
  | .py (.str x) => k (.inr x)
  | _ => False
theorem key_int {i : Int} {k : Key → Prop} (h : k (.inl i)) : KeyD (.py (.int i)) k := h
theorem key_str {x : Str} {k : Key → Prop} (h : k (.inr x)) : KeyD (.py (.str x)) k := h
theorem key_of {d : D} {k : Key → Prop} {A : Addr → Prop} {H : Hp} {v : V} (h : KeyD d k) (x : DX c A H v d) : ∃ y, v = kV y ∧ k y := by
  match d, h with
  | .py (.int i), h => exact ⟨.inl i, Da.int_eq x, h⟩
  | .py (.str s), h => exact ⟨.inr s, Da.str_eq x, h⟩
theorem wp_din {i : Nat} {ds : List (Key × PyData)} (hi : sl[i]? = some (.own (.dct ds))) (h : Wp c ty ⟨sl, nn⟩ fun d n => KeyD d fun k => Φ (.py (.bool (valP ds k).isSome)) n) : Wp c (tDIn ty (tVar i)) ⟨sl, nn⟩ Φ := ⟨fun σ A H o Q k => by
  refine h.run σ A H o _ fun v H1 d n p e1 g1 x => ?_
  obtain ⟨y, rfl, q⟩ := key_of p x
  have o1 := o.keep e1 g1
  obtain ⟨a, h1, ⟨kvs, h2, h3⟩, h4⟩ := o1.own i _ hi
  refine ⟨.ref a, h1, a, valV kvs y, rfl, DGet.k h2, ?_⟩
  rcases h3.get y with ⟨z1, z2⟩ | ⟨u, w, z1, z2, _⟩
  · rw [z2]; rw [z1] at q; exact k _ H1 _ n q e1 g1 (.bl _)
  · rw [z2]; rw [z1] at q; exact k _ H1 _ n q e1 g1 (.bl _)⟩
theorem wp_dnotin {i : Nat} {ds : List (Key × PyData)} (hi : sl[i]? = some (.own (.dct ds))) (h : Wp c ty ⟨sl, nn⟩ fun d n => KeyD d fun k => Φ (.py (.bool (!(valP ds k).isSome))) n) : Wp c (tDNotIn ty (tVar i)) ⟨sl, nn⟩ Φ := ⟨fun σ A H o Q k => by
  refine h.run σ A H o _ fun v H1 d n p e1 g1 x => ?_
  obtain ⟨y, rfl, q⟩ := key_of p x
  have o1 := o.keep e1 g1
  obtain ⟨a, h1, ⟨kvs, h2, h3⟩, h4⟩ := o1.own i _ hi
  refine ⟨.ref a, h1, a, valV kvs y, rfl, DGet.k h2, ?_⟩
  rcases h3.get y with ⟨z1, z2⟩ | ⟨u, w, z1, z2, _⟩
  · rw [z2]; rw [z1] at q; exact k _ H1 _ n q e1 g1 (.bl _)
  · rw [z2]; rw [z1] at q; exact k _ H1 _ n q e1 g1 (.bl _)⟩
theorem wp_dget {i : Nat} {ds : List (Key × PyData)} (hi : sl[i]? = some (.own (.dct ds))) (h : Wp c ty ⟨sl, nn⟩ fun d n => KeyD d fun k => ∃ p, valP ds k = some p ∧ Φ (.py p) n) : Wp c (tDGet (tVar i) ty) ⟨sl, nn⟩ Φ := ⟨fun σ A H o Q k => by
  obtain ⟨a, h1, ⟨kvs, h2, h3⟩, h4⟩ := o.own i _ hi
  refine ⟨.ref a, h1, h.run σ A H o _ fun v H1 d n p e1 g1 x => ?_⟩
  obtain ⟨y, rfl, u, z, q⟩ := key_of p x
  have o1 := o.keep e1 g1
  obtain ⟨a', h1', ⟨kvs', h2', h3'⟩, h4'⟩ := o1.own i _ hi
  rw [h1] at h1'; cases h1'
  rcases h3'.get y with ⟨z1, z2⟩ | ⟨u', w, z1, z2, z3⟩
  · rw [z] at z1; cases z1
  · rw [z] at z1; cases z1
    exact ⟨a, w, rfl, by rw [← z2]; exact DGet.k h2', k w H1 _ n q e1 g1 z3⟩⟩
theorem ws_dput {i : Nat} {ds : List (Key × PyData)} (hi : sl[i]? = some (.own (.dct ds))) (h : Wp c tv ⟨sl, nn⟩ fun d n => ∃ p, d = .py p ∧ Wp c ty ⟨sl, n⟩ fun d2 m => KeyD d2 fun k => ds.length < sizeLine ∧ P.nx ⟨sl.set i (.own (.dct (putP ds k p))), m⟩) : Ws c (sDPut (tVar i) ty tv) ⟨sl, nn⟩ P := ⟨fun σ A H o Dn nx _ _ _ => by
  refine h.run σ A H o _ fun v H1 d n p e1 g1 x => ?_
  obtain ⟨p, rfl, q⟩ := p
  have o1 := o.keep e1 g1
  obtain ⟨a, h1, _, h4⟩ := o1.own i _ hi
  refine ⟨.ref a, h1, q.run σ A H1 o1 _ fun y H2 d2 m q e2 g2 x2 => ?_⟩
  obtain ⟨y, rfl, hz, q⟩ := key_of q x2
  have o2 := o1.keep e2 g2
  obtain ⟨a', h1', ⟨kvs, h2, h3⟩, _⟩ := o2.own i _ hi
  rw [h1] at h1'; cases h1'
  have xp : Da c.K A H2 v p := Da.keep (Ek.kept e2 o.k) x
  have aA : A a := o.sub a (.inr ⟨i, _, hi, h1⟩)
  have k2 : Kept A H2 (upd H2 a (.dK (putK kvs y v))) := fun b u nb q => by rw [upd_ne fun z => nb (by rw [z]; exact aA)]; exact q
  obtain ⟨o3, kp, bk⟩ := o2.put (w' := .dct (putP ds y p)) (u := .dK (putK kvs y v)) hi h1 h4 g2 ⟨_, upd_same, (KvR.put xp h3).keep k2⟩
  exact ⟨a, _, rfl, DPut.k h2 (by rw [h3.len]; exact hz), nx σ A _ ⟨sl.set i (.own (.dct (putP ds y p))), m⟩ q (fun b u nb w => kp b u nb ((e1.trans e2) b u (fun z => nb (.inl z)) w)) (fun b z => .inl (bk b z)) o3⟩⟩
/-! ## index -/
def idxI (ns : List Int) (x : Int) : Nat := ns.findIdx (fun y => decide (y = x))
theorem da_ints {S : Addr → Prop} {H : Hp} : ∀ {xs : List V} {ns : List Int}, DaL K S H xs (ns.map PyData.int) → xs = ns.map V.int
  | [], [], _ => rfl
  | _ :: _, [], h => by cases h
  | [], _ :: _, h => by cases h
  | x :: xs, n :: ns, h => by
    cases h with
    | cons a b =>
      cases Da.int_eq a
      rw [da_ints b]
      rfl
theorem flat_ints : ∀ ns : List Int, (ns.map V.int).all flatV = true
  | [] => rfl
  | n :: ns => by rw [List.map_cons, List.all_cons, flat_ints ns]; rfl
def nums (xs : List Int) : List PyData := xs.map PyData.int
theorem nums_len (xs : List Int) : (nums xs).length = xs.length := List.length_map _
theorem nums_app (xs ys : List Int) : nums xs ++ nums ys = nums (xs ++ ys) := by unfold nums; rw [List.map_append]
theorem nums_drop (xs : List Int) (i : Nat) : (nums xs).drop i = nums (xs.drop i) := by unfold nums; rw [List.map_drop]
theorem nums_take (xs : List Int) (i : Nat) : (nums xs).take i = nums (xs.take i) := by unfold nums; rw [List.map_take]
theorem nums_at {xs : List Int} {i : Nat} {v : Int} (h : xs[i]? = some v) : atI (nums xs) (i : Int) = some (.int v) := atI_nat (by unfold nums; rw [List.getElem?_map, h] <;> rfl)
theorem nums_item {xs : List Int} {i : Nat} {d : D} (h : ((nums xs).map D.py)[i]? = some d) : ∃ v, xs[i]? = some v ∧ v ∈ xs ∧ d = .py (.int v) := by
  unfold nums at h
  rw [List.getElem?_map, List.getElem?_map] at h
  cases q : xs[i]? with
  | none => rw [q] at h; cases h
  | some s => rw [q] at h; cases h; exact ⟨s, rfl, List.mem_of_getElem? q, rfl⟩
theorem mem_nums (x : Int) (l : List Int) : Mem (.int x) (nums l) = decide (x ∈ l) := by
  unfold Mem nums
  rw [List.any_map]
  induction l with
  | nil => simp
  | cons t l ih =>
    rw [List.any_cons, ih]
    simp only [Function.comp, eqv_int, List.mem_cons]
    by_cases h : t = x
    · subst h; simp
    · have h2 : ¬ x = t := fun z => h z.symm
      simp [h, h2]
theorem shp_numsL (l : List Int) : SeqAt.shaped (.list (nums l)) = true := by
  have h : ∀ l : List Int, PyData.canLayAll0 (nums l) = true ∧ PyData.depthAll (nums l) ≤ 0 := by
    intro l
    induction l with
    | nil => exact ⟨rfl, by simp [nums, PyData.depthAll]⟩
    | cons x l ih =>
      obtain ⟨h1, h2⟩ := ih
      unfold nums at h1 h2 ⊢
      refine ⟨by rw [List.map_cons, PyData.canLayAll0, h1]; rfl, ?_⟩
      rw [List.map_cons, PyData.depthAll]
      have : (PyData.int x).depth = 0 := by simp [PyData.depth]
      omega
  obtain ⟨h1, h2⟩ := h l
  unfold SeqAt.shaped
  rw [Bool.and_eq_true]
  exact ⟨by rw [PyData.canLay0]; exact h1, decide_eq_true (by rw [PyData.depth]; omega)⟩
theorem idxI_spec {ns : List Int} {x : Int} (h : x ∈ ns) : ∃ hj : idxI ns x < ns.length, ns[idxI ns x] = x ∧ ∀ m (hm : m < idxI ns x), ns[m]'(by omega) ≠ x := by
  have hj : idxI ns x < ns.length := List.findIdx_lt_length_of_exists ⟨x, h, by simp⟩
  refine ⟨hj, ?_, fun m hm => ?_⟩
  · have := List.findIdx_getElem (xs := ns) (p := fun y => decide (y = x)) (w := hj)
    exact of_decide_eq_true this
  · have := List.not_of_lt_findIdx hm
    simpa using this
/-- path.index(x), x among the ints of an own list -/
theorem wp_index {i : Nat} {ns : List Int} (hK : K = c.K) (hi : sl[i]? = some (.own (.lst (nums ns)))) (h : Wp c te ⟨sl, nn⟩ fun d n => ∃ x : Int, d = .py (.int x) ∧ x ∈ ns ∧ Φ (.py (.int (idxI ns x : Nat))) n) :
    Wp c (tBM K "list" (rIndex K) (tVar i) (tCons te tNil)) ⟨sl, nn⟩ Φ := ⟨fun σ A H o Q k => by
  subst hK
  obtain ⟨a, h1, ⟨xs, h2, h3⟩, h4⟩ := o.own i _ hi
  refine ⟨.ref a, h1, .inl ⟨rfl, xs, SqL.of h2⟩, h.run σ A H o _ fun v H1 d n p e1 g1 x => ?_⟩
  obtain ⟨y, rfl, hy, q⟩ := p
  cases Da.int_eq x
  have nk : c.k ≠ some a := fun z => h4 (c.hk a z)
  have ha : H1 a = some (.lst xs) := e1 a _ nk h2
  have ex : xs = ns.map V.int := da_ints h3
  obtain ⟨j1, j2, j3⟩ := idxI_spec hy
  refine ⟨a, xs, .int y, idxI ns y, .int y, rfl, rfl, SqL.of ha, rfl, by rw [ex]; exact flat_ints ns, ?_, by simp [eqV], fun m z' hm hz => ?_, k _ H1 _ n q e1 g1 (.int _)⟩
  · rw [ex, List.getElem?_map, List.getElem?_eq_getElem j1, j2]
    rfl
  · rw [ex, List.getElem?_map] at hz
    have hm' : m < ns.length := by omega
    rw [List.getElem?_eq_getElem hm'] at hz
    cases hz
    have := j3 m hm
    simp [eqV, this]⟩
/-- an own list and a new one, put together -/
theorem wp_catO {i : Nat} {tb : TE} {ds : List PyData} (hi : sl[i]? = some (.own (.lst ds))) (h : Wn c tb ⟨sl, nn⟩ fun u m => ∃ es, u = .lst es ∧ ds.length + es.length ≤ sizeLine ∧ Φ (outO (.lst (ds ++ es))) m) : Wp c (tOp (rADD K) (tVar i) tb) ⟨sl, nn⟩ Φ := ⟨fun σ A H o Q k => by
  obtain ⟨a, h1, _, _⟩ := o.own i _ hi
  refine ⟨.ref a, h1, h.run σ A H o _ fun p2 H2 u m q e2 g2 f2 t2 => ?_⟩
  obtain ⟨es, rfl, hz, q⟩ := q
  obtain ⟨zs, r2, y2⟩ := t2
  have o2 := o.keep e2 g2
  obtain ⟨a', h1', ⟨xs, h2, h3⟩, h4⟩ := o2.own i _ hi
  rw [h1] at h1'; cases h1'
  have d2 : DaL c.K A H2 zs es := y2.less fun a z => .inl z
  refine .inr (.inr (.inl ⟨a, p2, xs, zs, rfl, rfl, h2, r2, by rw [h3.len, d2.len]; exact hz, fun p hp => ?_⟩))
  exact k (.ref p) _ (outO (.lst (ds ++ es))) m q (e2.trans (Ek.new hp)) (g2.new hp) (dx_ow (w := .lst (ds ++ es)) (o2.at_.fresh hp) ⟨xs ++ zs, upd_same, lay (h3.append d2) hp⟩)⟩
end
end Wx

/-! ### part Wf -/
set_option Elab.async false
set_option linter.all false
set_option maxRecDepth 100000
set_option maxHeartbeats 1000000
set_option autoImplicit false
/-! More rules: a value and an own object at once, +=, a list repeated, // by any small number. -/
namespace Wx
open PySem L2
def tParP (i j : Nat) (ta : TA) : TS := tPar i j ta
theorem ps_parP {X : Cx} {st : Stmt} {i j : Nat} {ta : TA} (h : PS X st (tPar i j ta)) : PS X st (tParP i j ta) := h
section
variable {c : Cy} {sl : List Slo} {nn n : Nat} {te te2 ta tb : TE} {Φ : D → Nat → Prop} {Ψ : Ow → Nat → Prop} {P : Po} {K : PySem.W.Frag}
/-- i, j = a value, a new own object -/
theorem ws_parP {i j : Nat} (h : Wp c te ⟨sl, nn⟩ fun d m => d.nm = true ∧ Wn c te2 ⟨sl, m⟩ fun w n => P.nx ⟨(sl.set i (.val d)).set j (.own w), n⟩) (hi : i < sl.length) (hj : j < sl.length) (hij : i ≠ j) :
    Ws c (tParP i j (tCons te (tCons te2 tNil))) ⟨sl, nn⟩ P := ⟨fun σ A H o Dn nx _ _ _ => by
  refine h.run σ A H o _ fun v H1 d m p e1 g1 x => ?_
  obtain ⟨nm, p⟩ := p
  have o1 := o.keep e1 g1
  refine p.run σ A H1 o1 _ fun r H2 w n q e2 g2 hr t => ?_
  have x2 := x.keep e2 o.k
  have o2 := o1.set_ (i := i) hi nm x
  have o3 := o2.set_own (i := j) e2 g2 hr t (by show j < (sl.set i _).length; rw [List.length_set]; exact hj)
  refine ⟨v, .ref r, rfl, nx _ _ H2 ⟨(sl.set i (.val d)).set j (.own w), n⟩ q (Kp.ek (e1.trans e2)) (fun a z => ?_) o3⟩
  obtain ⟨k, es, h3, h4⟩ := z
  by_cases rj : j = k
  · subst rj
    rw [List.getElem?_set_self (by rw [List.length_set, o.len]; exact hj)] at h4
    cases h4
    exact .inr (fresh_of e1 g1 hr)
  · rw [List.getElem?_set_ne rj] at h4
    have h3' : (sl.set i (.val d))[k]? = some (Slo.own es) := by rw [← List.getElem?_set_ne rj]; exact h3
    exact .inl (own_set (e := ⟨sl, nn⟩) ⟨k, es, h3', h4⟩)⟩
/-- x op= e, whole numbers -/
theorem ws_augI {i : Nat} {a : Int} {g : Int → Int → Int} (hi : sl[i]? = some (.val (.py (.int a)))) (h : Wp c te ⟨sl, nn⟩ fun d m => ∃ b, d = .py (.int b) ∧ P.nx ⟨sl.set i (.val (.py (.int (g a b)))), m⟩) : Ws c (tAug i te (ipI g)) ⟨sl, nn⟩ P := ⟨fun σ A H o Dn nx _ _ _ => by
  obtain ⟨_, v, h1, h2⟩ := o.val i _ hi
  cases Da.int_eq h2
  refine ⟨.int a, h1, h.run σ A H o _ fun v H1 d m p e1 g1 x => ?_⟩
  obtain ⟨b, rfl, q⟩ := p
  cases Da.int_eq x
  have o1 := o.keep e1 g1
  have il : i < sl.length := (List.getElem?_eq_some_iff.mp hi).1
  have o2 := o1.set_ (i := i) (d := .py (.int (g a b))) (v := .int (g a b)) il rfl (.int _)
  exact ⟨a, b, rfl, rfl, nx _ A H1 _ q (Kp.ek e1) (fun z w => .inl (own_set (e := ⟨sl, nn⟩) w)) o2⟩⟩
theorem DaL.rep {S : Addr → Prop} {H : Hp} {xs : List V} {ds : List PyData} (h : DaL K S H xs ds) : ∀ k : Nat, DaL K S H (List.replicate k xs).flatten (List.replicate k ds).flatten
  | 0 => .nil
  | k + 1 => by
    rw [List.replicate_succ, List.replicate_succ, List.flatten_cons, List.flatten_cons]
    exact h.append (DaL.rep h k)
/-- [..] * k -/
theorem wn_rep (h : Wn c ta ⟨sl, nn⟩ fun w n => ∃ ds, w = .lst ds ∧ Wp c tb ⟨sl, n⟩ fun d m => ∃ k : Int, d = .py (.int k) ∧ 0 ≤ k ∧ k < 2 ^ 63 ∧ ds.length * k.toNat ≤ sizeLine ∧ Ψ (.lst (List.replicate k.toNat ds).flatten) m) : Wn c (tOp rMUL ta tb) ⟨sl, nn⟩ Ψ := ⟨fun σ A H o Q k => by
  refine h.run σ A H o _ fun p1 H1 w n q e1 g1 f1 t1 => ?_
  obtain ⟨ds, rfl, q⟩ := q
  obtain ⟨xs, r1, y1⟩ := t1
  have o1 := o.keep e1 g1
  refine q.run σ A H1 o1 _ fun v H2 d m q e2 g2 x => ?_
  obtain ⟨i, rfl, h0, hb, hz, q⟩ := q
  cases Da.int_eq x
  have nk : c.k ≠ some p1 := fun z => o.al p1 (o.k p1 z) f1
  have r1' : H2 p1 = some (.lst xs) := e2 p1 _ nk r1
  have d1 : DaL c.K A H2 xs ds := (y1.less fun a z => .inl z).keep (e2.kept o.k)
  refine .inr ⟨p1, i, xs, rfl, rfl, r1', by omega, hb, by rw [d1.len]; exact hz, fun p hp => ?_⟩
  exact k p _ _ m q ((e1.trans e2).trans (Ek.new hp)) (g2.new hp) (fresh_of (e1.trans e2) g2 hp) ⟨_, upd_same, lay (d1.rep i.toNat) hp⟩⟩
theorem wp_rep {t : TA} (h : Wn c (tOp rMUL (tLst t) tb) ⟨sl, nn⟩ fun w n => Φ (outO w) n) : Wp c (tOp rMUL (tLst t) tb) ⟨sl, nn⟩ Φ := wp_new h
theorem rw_fdN {i j : Int} (hc : CDivN i j) (h : Φ (.py (.int (i.fdiv j))) n) : Rw c (rI CDivN fun i j => .int (i.fdiv j)) (.py (.int i)) (.py (.int j)) n Φ := rw_i (h := ⟨hc, h⟩)
end
end Wx

/-! ### part Wm -/
set_option Elab.async false
set_option linter.all false
set_option maxRecDepth 100000
set_option maxHeartbeats 1000000
set_option autoImplicit false
/-! max of a pair of whole numbers. -/
namespace Wx
open PySem L2
def rMaxT (K : PySem.W.Frag) : List V → Hp → VK → Prop := fun xs H Q => ∃ (a : Addr) (i j : Int), xs = [.ref a] ∧ SqT K H a [.int i, .int j] ∧ Q (.int (if j > i then j else i)) H
theorem cr_maxT {X : Cx} (hc : X.calm = true) (hu : X.A.units + 65 < cLine) : CallR X (.builtin "max") (rMaxT X.K) := by
  intro pins s σ H vs us Q I r h
  obtain ⟨a, i, j, rfl, hs, q⟩ := h
  obtain ⟨its, rv, hl, _⟩ := I.tuple hs
  rw [Vals.ref1 r]
  obtain ⟨t1, t2, rfl⟩ : ∃ t1 t2, its = [.int i t1, .int j t2] := by
    cases rv with
    | cons r1 rt =>
      cases rt with
      | cons r2 rn =>
        cases rn
        obtain ⟨t1, rfl⟩ := r1
        obtain ⟨t2, rfl⟩ := r2
        exact ⟨t1, t2, rfl⟩
  refine PySem.W.max_tuple_data (xs := [.int j]) (x := .int i) (I.ok.hd hc) (by obtain ⟨o, h1, h2, n, h3⟩ := hl; exact ⟨o, h1, h2, n, h3⟩) (.cons (.int i t1) (.cons (.int j t2) .nil)) ⟨fun x hx y hy => ?_, fun x hx => ?_⟩ ?_ fun k v h' tk bs _ hr hk => ?_
  · simp only [List.mem_cons, List.not_mem_nil, or_false] at hx hy
    rcases hx with rfl | rfl <;> rcases hy with rfl | rfl <;> rfl
  · simp only [List.mem_cons, List.not_mem_nil, or_false] at hx
    rcases hx with rfl | rfl <;> exact fun z => nomatch z
  · have : PyData.depthAll [.int i, .int j] = 0 := by simp [PyData.depthAll, PyData.depth]
    rw [this]
    omega
  · have e : PySem.W.maxD (.int i) [.int j] = .int (if j > i then j else i) := by
      have := PySem.W.maxD_ints i [j]
      rw [show ([PyData.int j] : List PyData) = [j].map .int from rfl, this]
      show PyData.int (max i j) = _
      congr 1
      omega
    rw [e] at hr
    cases hr with
    | int _ t => exact ⟨.int _, H, I.kept hk, ⟨_, rfl⟩, q⟩
theorem maxTK {X : Cx} {K : PySem.W.Frag} (h : X.K = K) (hc : X.calm = true) (hu : X.A.units + 65 < cLine) : CallR X (.builtin "max") (rMaxT K) := h ▸ cr_maxT hc hu
section
variable {c : Cy} {n : Nat} {Φ : D → Nat → Prop} {K : PySem.W.Frag}
theorem cw_maxT {i j : Int} (hK : K = c.K) (h : Φ (.py (.int (if j > i then j else i))) n) : Cw c (rMaxT K) [.py (.tuple [.int i, .int j])] n Φ := ⟨fun A H vs a x Q k => by
  subst hK
  match vs, x with
  | [v], ⟨xv, _⟩ =>
    obtain ⟨b, xs, rfl, hs, t⟩ := Da.tuple_at xv
    have ex : xs = [.int i, .int j] := da_ints (ns := [i, j]) t
    rw [ex] at hs
    exact ⟨b, i, j, rfl, hs, k _ H _ n h Ek.refl a.good (.int _)⟩⟩
end
end Wx

/-! ### part Wh -/
set_option Elab.async false
set_option linter.all false
set_option maxRecDepth 100000
set_option maxHeartbeats 2000000
/-! An own error with one field. -/
namespace PySem
namespace XTooHigh
open PySem.W PySem.Calls PyProof.Rows PySem.HandSPX
/-! ### the text of __init__ -/
def iA_TooHigh (p1 p2 : Pos) : Arguments := { posonlyargs := [], args := [{ arg := "self", annotation := none, pos := p1 }, { arg := "limit", annotation := none, pos := p2 }], vararg := none, kwonlyargs := [], kw_defaults := [], kwarg := none, defaults := [] }
def iB_TooHigh (q1 q2 q3 q4 : Pos) : List Stmt := [.Assign [.Attribute (.Name "self" q1) "limit" q2] (.Name "limit" q3) q4]
def iS_TooHigh : Scope := { kind := .function, names := [(PySem.Str.ofString "self", .local), (PySem.Str.ofString "limit", .local)], isGenerator := false, isCoroutine := false, more := [] }
/-- what the written part says of Low, at C, and of its __init__, at fI -/
structure TxtTooHigh (K : Frag) (mg : Str → Option Value) (C fI : Addr) : Prop where
  gC : mg "TooHigh" = some (.ref C)
  cls : ∃ nm q N bs bm sn sub ab col dd k0 k1 k2 k3 k5, K.lookup C = some (excClassObj nm q C N bs bm true sn sub ab col dd k0 k1 k2 k3 k5 "ValueError.__new__") ∧ refsVE bm = true
  sa : findIn K (.ref C) "__setattr__" = some (some (.builtin "object.__setattr__"))
  ga : findIn K (.ref C) "__getattribute__" = some (some (.builtin "BaseException.__getattribute__"))
  gg : findIn K (.ref C) "__getattr__" = some none
  noN : findIn K (.ref C) "limit" = some none
  iC : findIn K (.ref C) "__init__" = some (some (.ref fI))
  tC : typeIn K (.ref fI) = some (.type "function")
  kC : keepIn K (.ref C) = true
  exC : subIn K (.ref C) (.type "BaseException") = some true
  tyC : typeIn K (.ref C) = some (.type "type")
  hdC : hasDictIn K C = true
  te : exmOne K (.ref C) (.ref C) = some true
  fn : ∃ (oc : Value) (od : Option Addr) (doc pm : Value) (an : Option Addr) (cdv ct : Value) (osl : Array (Option Value)) (p1 p2 q1 q2 q3 q4 : Pos),
    K.lookup fI = some ⟨oc, od, .func (fnOf "__init__" "TooHigh.__init__" (iA_TooHigh p1 p2) (iB_TooHigh q1 q2 q3 q4) iS_TooHigh .none .none doc pm an cdv ct), osl⟩ ∧ codeIn K cdv "TooHigh.__init__" = true
theorem one_size_TooHigh (v : Value) : [v].length ≤ sizeLine := by
  rw [sizeLine_eq]
  exact (by decide : 1 ≤ 16777216)
theorem kept_but_TooHigh {K : Frag} {h h' : Heap} {x : Addr} (X : K.In h) (hx : K.lookup x = none) (k : ∀ b o, b ≠ x → h.get? b = some o → h'.get? b = some o) : K.In h' := fun a o e =>
  k a o (fun z => by rw [z, hx] at e; cases e) (X a o e)
theorem ldC_TooHigh {M : Model} {s : Shared} {name : Str} {scope : Scope} {L a : Addr} {cd : Value} {m : Str → Option Value} {x : Str} {pos : Pos} {v : Value} {Q : Value → Shared → Prop} {A : Around} {E : Value → Shared → Prop} (hn : s.heap.Ns L m) (hv : m x = some v) (h : Q v s)
    (hk : scope.kind = .function := by rfl) (hl : (envOfC name scope L a cd).kindOf x = some .local := by rfl) (hd : (x == ("__debug__" : Str)) = false := by decide) :
    wpAny M A (eval (.Name x pos) (envOfC name scope L a cd)) Q E s := wpAny_Name (wpAny_loadName_local hk hl hn hv h) hd
/-- what __init__ leaves of a fresh exception at x -/
structure InitEndTooHigh (h h' : Heap) (x C dx t1 : Addr) (v : Value) : Prop where
  keep : ∀ b o, b ≠ x → h.get? b = some o → h'.get? b = some o
  obj : h'.get? x = some { cls := .ref C, dict := some dx, data := .fields #[.ref t1, .none, .none, .none, .bool false, .none] }
  dbig : h.objs.size ≤ dx
  dne : dx ≠ x
  ns : h'.Ns1 dx (fun y => if y = "limit" then some v else none)
/-- a made Low -/
structure OwnMadeTooHigh (h h' : Heap) (e C d : Addr) (v : Value) : Prop where
  keep : ∀ b o, h.get? b = some o → h'.get? b = some o
  new : h.objs.size ≤ e
  obj : ∃ oe vs, h'.get? e = some oe ∧ oe.cls = .ref C ∧ oe.dict = some d ∧ oe.data = .fields vs ∧ vs[1]? = some .none
  dbig : h.objs.size ≤ d
  dne : d ≠ e
  ns : h'.Ns1 d (fun y => if y = "limit" then some v else none)
section
variable {prog : Program} {w : World} {A : Around} {E : Value → Shared → Prop} {R : Result → Shared → Prop} {s : Shared} {K : Frag} {mg : Str → Option Value} {C fI : Addr}
theorem init_TooHigh (T : TxtTooHigh K mg C fI) {x t0 : Addr} {v : Value} (X : K.In s.heap) (hlim : s.heap.NoLimit) (hx : s.heap.get? x = some (excO C t0)) (hnx : K.lookup x = none) (hroom : A.depth < recursionLimit)
    (hq : ∀ h' tk dx, InitEndTooHigh s.heap h' x C dx t0 v → R (.ok (.ret .none)) { s with heap := h', toks := tk }) :
    codeAny (model prog w) A (.call (.ref fI) ⟨[.ref x, v], []⟩) R s := by
  obtain ⟨oc, od, doc, pm, an, cdv, ct, osl, p1, p2, q1, q2, q3, q4, ho, hcd⟩ := T.fn
  obtain ⟨nm, q, N, bs, bm, sn, sub, ab, col, dd, k0, k1, k2, k3, k5, hC, hbm⟩ := T.cls
  have hcl : clsIn K C = some { name := nm, bases := bs, mro := .ref C :: bm, ns := N, qualname := q, hasDict := true, slotNames := sn, subclasses := sub, abstract := ab, collection := col, hasDel := false } := by unfold clsIn; rw [hC] <;> rfl
  refine Att.call_fn (binds := [("self", .ref x), ("limit", v)]) X hlim ho hcd hroom (BindsTo.of_eq (by first | rfl | with_unfolding_all rfl)) (by first | rfl | decide | with_unfolding_all rfl) (fun s₁ IC => ?_) rfl rfl rfl
  obtain ⟨h₁, tk₁, rfl⟩ := IC.toInCall.same
  have k : ∀ b o, s.heap.get? b = some o → h₁.get? b = some o := IC.toInCall.keep
  have hn := IC.toInCall.ns
  have hxL : s.heap.objs.size ≠ x := Nat.ne_of_gt (Heap.lt_size hx)
  have X₁ : K.In h₁ := X.keeps k
  have hx₁ := k _ _ hx
  -- self.by = by
  show wpAny _ _ (execs _ _) _ _ _
  refine wpAny_execs_cons (plainObj_wpAny_Assign_Attribute ?_)
  refine ldC_TooHigh (v := v) hn (by first | rfl | with_unfolding_all rfl | kernel_rfl) (ldC_TooHigh (v := .ref x) hn (by first | rfl | with_unfolding_all rfl | kernel_rfl) ?_)
  refine set_plain X₁ (ox := excO C t0) (od := none) ⟨hx₁, rfl, rfl, trivial⟩ T.sa ?_
  refine exc_osa X₁ hx₁ hcl (show refsVE (.ref C :: bm) = true from hbm) rfl T.noN (fun h₃ tk₃ dx k₃ dn dne hx₃ hn₃ => ?_)
  show wpAny _ _ (execs _ _) _ _ _
  have z : s.heap.objs.size < h₁.objs.size := hn.lt
  exact wpAny_execs_nil (hq h₃ tk₃ dx ⟨fun b o hb e => k₃ b o hb (k b o e), hx₃, Nat.le_of_lt (Nat.lt_of_lt_of_le z dn), dne, hn₃⟩)
theorem made_TooHigh (T : TxtTooHigh K mg C fI) {v : Value} (X : K.In s.heap) (hlim : s.heap.NoLimit) (hroom : A.depth + 1 < recursionLimit)
    (hq : ∀ h' tk e d, OwnMadeTooHigh s.heap h' e C d v → R (.ok (.ret (.ref e))) { s with heap := h', toks := tk }) :
    codeAny (model prog w) A (.call (.ref C) ⟨[v], []⟩) R s := by
  obtain ⟨nm, q, N, bs, bm, sn, sub, ab, col, dd, k0, k1, k2, k3, k5, hC, hbm⟩ := T.cls
  obtain ⟨hp, g, dr, tk, os⟩ := s
  have k : ∀ b o, hp.get? b = some o → ((hp.push (kdv_tup [v])).push (excO C hp.objs.size)).get? b = some o := fun b o e => Heap.get?_push_of_some _ (Heap.get?_push_of_some _ e)
  have hget : ((hp.push (kdv_tup [v])).push (excO C hp.objs.size)).get? (hp.objs.size + 1) = some (excO C hp.objs.size) := by heap_get
  have hnx : K.lookup (hp.objs.size + 1) = none := by
    cases e : K.lookup (hp.objs.size + 1) with
    | none => rfl
    | some o =>
      have z : hp.get? (hp.objs.size + 1) = some o := X _ _ e
      exact absurd (Nat.lt_of_succ_lt (Heap.lt_size z)) (Nat.lt_irrefl _)
  refine call_own F.excBase_ValueError (fun X => refsVE_contains X bm hbm) (X _ _ hC) (looks_findIn X T.iC) (fun self => bind_fn X self T.tC) (one_size_TooHigh v) ?_
  refine init_TooHigh (s := ⟨(hp.push (kdv_tup [v])).push (excO C hp.objs.size), g, dr, tk, os⟩) T (X.keeps k) (hlim.keeps k) hget hnx ?_ fun h' tk' dx ⟨k', hx, dn, dne, hns⟩ => ?_
  · show A.depth + 1 < recursionLimit
    exact hroom
  · have old : ∀ b o, hp.get? b = some o → h'.get? b = some o := fun b o e => k' b o (Nat.ne_of_lt (Nat.lt_succ_of_lt (Heap.lt_size e))) (k b o e)
    have z : hp.objs.size + 1 + 1 ≤ dx := by
      first
        | (simpa only [Heap.size_push] using dn)
        | exact dn
        | (have q := dn; rw [Heap.size_push, Heap.size_push] at q; exact q)
    exact ⟨rfl, hq h' tk' (hp.objs.size + 1) dx ⟨old, Nat.le_succ _, ⟨_, _, hx, rfl, rfl, rfl, rfl⟩, Nat.le_trans (Nat.le_trans (Nat.le_succ _) (Nat.le_succ _)) z, dne, hns⟩⟩
end
end XTooHigh
end PySem
namespace L2
open PySem PySem.Spec PyProof.Rows
theorem relO_TooHigh {v : V} {v' : Value} (r : RelV v v') (f : Str) : RelO (List.lookup f [(("limit" : Str), v)]) (if f = "limit" then some v' else none) := by
  by_cases hw : f = "limit"
  · subst hw
    rw [if_pos rfl]
    have q : List.lookup ("limit" : Str) [(("limit" : Str), v)] = some v := by simp [List.lookup]
    rw [q]
    exact r
  · rw [if_neg hw]
    have qw : (f == ("limit" : Str)) = false := by simpa using hw
    have q2 : List.lookup f [(("limit" : Str), v)] = none := by simp [List.lookup, qw]
    rw [q2]
    trivial
section
variable {X : Cx} {C fI : Addr}
/-- Low(e) -/
def tMkTooHigh (C : Addr) (ta : TA) : St → Hp → XK → Prop := fun σ H Q => ta σ H fun vs H1 => ∃ v, vs = [v] ∧ ∀ d, H1 d = none → Q (.ref C) (some d) (upd H1 d (.xd [(("limit" : Str), v)]))
theorem pmk_TooHigh {a : Expr} {ta : TA} {p pos : Pos} {k : Nat} (T : PySem.XTooHigh.TxtTooHigh X.K X.mg C fI) (hr : Room k X.A) (ha : PA X [a] ta) (hg : Gl X "TooHigh" := by rfl)
    (he : starEach (a :: []) X.env = (false, eval a X.env) :: starEach [] X.env := by rfl) (hpl : (backTo pos (starEach [] X.env)).any (·.1) = false := by rfl) :
    PMk X (.Call (.Name "TooHigh" p) [a] [] pos) (tMkTooHigh C ta) := by
  intro pins s σ H Q I h
  refine wpAny_Call_Name_kw (ld_glob I hg T.gC ?_)
  refine PySem.W.callWith_K (h₀ := X.base) I.ok.mod.kin T.kC (thn (ha.run pos pins s σ H _ I h) fun us s1 hh => ?_) he hpl
  obtain ⟨vs, H1, I1, r1, v, ev, q1⟩ := hh
  subst ev
  refine ⟨I1.kIn, ?_⟩
  cases r1 with
  | cons rv rn =>
    rename_i v' us'
    cases rn
    show wpAny _ _ (call (.ref C) [v']) _ _ _
    have hlim := I1.nolimit
    obtain ⟨hp, g, dr, tk, os⟩ := s1
    refine wpAny_call (PySem.XTooHigh.made_TooHigh T I1.kIn hlim (by have := hr.dp; omega) fun h' tk' e d M => ?_)
    show MkP X pins σ Q (.ref e) ⟨h', g, dr, tk', os⟩
    obtain ⟨oe, fv, hoe, hc, hd, hdat, h1⟩ := M.obj
    have hns := M.ns
    obtain ⟨G', g1, g2⟩ := restrict h' fun b => decide (b ≠ e)
    have gk : ∀ b, b ≠ e → G'.get? b = h'.get? b := fun b hb => g1 b (decide_eq_true hb)
    have ge : G'.get? e = none := g2 e (by simp)
    have old : ∀ b o, hp.get? b = some o → G'.get? b = some o := fun b o q => (gk b (Nat.ne_of_lt (Nat.lt_of_lt_of_le (Heap.lt_size q) M.new))).trans (M.keep b o q)
    have ob : ObjOk X.prog X.w (upd H1 d (.xd [(("limit" : Str), v)])) G' d (.xd [(("limit" : Str), v)]) :=
      ⟨_, hns.at (fun o q => (gk d M.dne).trans q), fun f => relO_TooHigh rv f⟩
    have J : Inv X pins σ (upd H1 d (.xd [(("limit" : Str), v)])) ⟨G', g, dr, tk', os⟩ := I1.laid (t' := tk') old M.dbig ob
    refine ⟨e, oe, fv, ⟨G', g, dr, tk', os⟩, _, .ref C, some d, rfl, J, fun b o q => ?_, ge, hoe, ⟨hc, hd⟩, hdat, h1, ?_, rfl, I1.bare, raises_own T.exC T.tyC, q1 d (I1.hok.fresh M.dbig)⟩
    · by_cases hb : b = e
      · have q' : G'.get? b = some o := q
        rw [hb, ge] at q'; cases q'
      · exact (gk b hb).symm.trans q
    · rw [upd_ne (Ne.symm M.dne)]
      exact I1.hok.fresh M.new
/-- raise Low(e) -/
def tRaiseTooHigh (C : Addr) (W : WX) (ta : TA) : TS := fun _ σ H => tMkTooHigh C ta σ H fun cls d H' => W cls d σ H'
theorem ps_raiseTooHigh {a : Expr} {ta : TA} {W : WX} {p pos pos2 : Pos} {k : Nat} (hc : X.calm = true) (T : PySem.XTooHigh.TxtTooHigh X.K X.mg C fI) (hr : Room k X.A) (tk : Takes X W) (ha : PA X [a] ta) (hg : Gl X "TooHigh" := by rfl)
    (he : starEach (a :: []) X.env = (false, eval a X.env) :: starEach [] X.env := by rfl) (hpl : (backTo pos (starEach [] X.env)).any (·.1) = false := by rfl) :
    PS X (.Raise (some (.Call (.Name "TooHigh" p) [a] [] pos)) none pos2) (tRaiseTooHigh C W ta) := ps_raise hc tk (pmk_TooHigh T hr ha hg he hpl)
/-- low.by, low the exception that the suite holds (at a; its class cls, its dict d) -/
def tByTooHigh (C : Addr) (a : Addr) (cls : Value) (d : Option Addr) (te : TE) : TE := fun σ H Q => te σ H fun x H1 => x = .ref a ∧ cls = .ref C ∧ ∃ (dd : Addr) (v : V), d = some dd ∧ H1 dd = some (.xd [(("limit" : Str), v)]) ∧ Q v H1
theorem pe_byTooHigh {a : Addr} {oe : Obj} {cls : Value} {d : Option Addr} {pn : List (Addr × Obj)} {e : Expr} {te : TE} {pos : Pos} (T : PySem.XTooHigh.TxtTooHigh X.K X.mg C fI) (hz : Zc cls d oe) (hf : ∃ vs, oe.data = .fields vs) (he : PE (X.suite a ((a, oe) :: pn)) e te)
    (hb : attributeBase e "limit" X.env (eval e X.env) = eval e X.env := by rfl) :
    PE (X.suite a ((a, oe) :: pn)) (.Attribute e "limit" pos) (tByTooHigh C a cls d te) := by
  refine ⟨fun pins s σ H Q I h => ?_⟩
  refine attr_of hb (thn (he.run pins s σ H _ I h) fun u s1 hh => ?_)
  obtain ⟨x, H1, I1, rx, ex, ec, dd, v, ed, ea, q⟩ := hh
  subst ex
  obtain rfl : u = Value.ref a := rx
  subst ec
  subst ed
  obtain ⟨ha, _⟩ := I1.pin (a, oe) (List.mem_append_left _ List.mem_cons_self)
  obtain ⟨vs, hd⟩ := hf
  have hx : ObjOk X.prog X.w H1 s1.heap dd (.xd [(("limit" : Str), v)]) := I1.hok dd _ ea
  obtain ⟨mA, hns, hr⟩ := hx
  obtain ⟨od, ho, hl⟩ := lookIn_ns hns
  have l : List.lookup ("limit" : Str) [(("limit" : Str), v)] = some v := by simp [List.lookup]
  obtain ⟨u, hu, ru⟩ := RelO.some_of (v := v) (o := mA "limit") (by rw [← l]; exact hr "limit")
  have J : PySem.W.InstAt s1.heap a oe C (some od) := ⟨ha, hz.1, by unfold PySem.W.notCls; rw [hd] <;> rfl, by rw [hz.2]; exact ho⟩
  exact HandSPX.exc_get I1.kIn J T.ga T.gg T.exC (PySem.W.findObj_own T.hdC T.noN rfl (by rw [hl, hu])) (handed_of ru) ⟨v, H1, I1.tok _, ru, q⟩
end
end L2


/-! ### part We -/
set_option Elab.async false
set_option linter.all false
set_option maxRecDepth 100000
set_option maxHeartbeats 1000000
set_option autoImplicit false
/-! What surely raises: beside Ws, a judgement Wr; promises of defs that raise; try. -/
namespace Wx
open PySem L2
abbrev XFs : Type := Option (List (Str × PyData))
/-- an exception of the class at cl, with its own dict or none -/
def XD (c : Cy) (A : Addr → Prop) (H : Hp) (cl : Addr) (fs : XFs) (cls : Value) (od : Option Addr) : Prop :=
  cls = .ref cl ∧ match fs with
    | none => od = none
    | some fs => ∃ d vs, od = some d ∧ ¬ A d ∧ H d = some (.xd vs) ∧ FsR c.K A H vs fs
def Xx (c : Cy) (σ : L2.St) (H : Hp) (e : En) (Φ : Addr → XFs → En → Prop) (W : WX) : Prop :=
  ∀ (σ' : L2.St) (A' : Addr → Prop) (H' : Hp) (e' : En) (cls : Value) (od : Option Addr) (cl : Addr) (fs : XFs), Φ cl fs e' → Kp c σ e H H' → (∀ a, ownA σ' e'.sl a → ownA σ e.sl a ∨ H a = none) → Ok c A' H' σ' e' → XD c A' H' cl fs cls od → W cls od σ' H'
structure Wr (c : Cy) (t : TS) (e : En) (W : WX) (Φ : Addr → XFs → En → Prop) : Prop where
  run : ∀ (σ : L2.St) (A : Addr → Prop) (H : Hp), Ok c A H σ e → Xx c σ H e Φ W → ∀ Dn : Ends, t Dn σ H
structure Wq (c : Cy) (te : TE) (e : En) (W : WX) (Φ : Addr → XFs → En → Prop) : Prop where
  run : ∀ (σ : L2.St) (A : Addr → Prop) (H : Hp), Ok c A H σ e → Xx c σ H e Φ W → ∀ Q : VK, te σ H Q
section
variable {c : Cy} {A A1 : Addr → Prop} {H H1 : Hp} {σ σ1 : L2.St} {e e1 : En} {W : WX} {Φ : Addr → XFs → En → Prop} {t u : TS} {te : TE} {tt : TT} {g : TG}
theorem XD.less {B : Addr → Prop} {cl : Addr} {fs : XFs} {cls : Value} {od : Option Addr} (w : ∀ a, B a → A a) (h : XD c A H cl fs cls od) : XD c B H cl fs cls od := by
  obtain ⟨h1, h2⟩ := h
  refine ⟨h1, ?_⟩
  cases fs with
  | none => exact h2
  | some fs =>
    obtain ⟨d, vs, h3, h4, h5, h6⟩ := h2
    exact ⟨d, vs, h3, fun z => h4 (w d z), h5, h6.less w⟩
theorem Xx.after (h : Xx c σ H e Φ W) (o : Ok c A H σ e) (a : Kp c σ e H H1) (w : ∀ a, ownA σ1 e1.sl a → ownA σ e.sl a ∨ H a = none) (o1 : Ok c A1 H1 σ1 e1) : Xx c σ1 H1 e1 Φ W := fun σ' A' H' e' cls od cl fs p b w' o' x =>
  h σ' A' H' e' cls od cl fs p (a.trans w b) (fun y z => by
    rcases w' y z with z | z
    · exact w y z
    · exact own_back o o1.good a (.inr z)) o' x
theorem Xx.ek {n : Nat} (h : Xx c σ H e Φ W) (o : Ok c A H σ e) (a : Ek c H H1) (g : Good c n H1) : Xx c σ H1 ⟨e.sl, n⟩ Φ W := h.after o (Kp.ek a) (fun _ z => .inl z) (o.keep a g)
theorem wr_seq1 (h : Wr c t e W Φ) : Wr c (tSeq t u) e W Φ := ⟨fun σ A H o x Dn => h.run σ A H o x { Dn with nx := u Dn }⟩
theorem wr_seq2 {sl : List Slo} {nn : Nat} (h : Ws c t ⟨sl, nn⟩ ⟨fun e1 => Wr c u e1 W Φ, fun _ _ => False, fun _ => False, fun _ => False⟩) : Wr c (tSeq t u) ⟨sl, nn⟩ W Φ := ⟨fun σ A H o x Dn =>
  h.run σ A H o { Dn with nx := u Dn } (fun σ1 A1 H1 e1 q a w o1 => q.run σ1 A1 H1 o1 (x.after o a w o1) Dn) (fun _ _ _ _ z => z.elim) (fun _ _ _ _ z => z.elim) (fun _ _ _ _ z => z.elim)⟩
theorem wr_if {sl : List Slo} {nn : Nat} (h : Wt c tt ⟨sl, nn⟩ fun b n => (b = true → Wr c t ⟨sl, n⟩ W Φ) ∧ (b = false → Wr c u ⟨sl, n⟩ W Φ)) : Wr c (tIfS tt t u) ⟨sl, nn⟩ W Φ := ⟨fun σ A H o x Dn => by
  refine h.run σ A H o _ fun b H1 n p e1 g1 => ?_
  cases b with
  | true => exact iteT ((p.1 rfl).run σ A H1 (o.keep e1 g1) (x.ek o e1 g1) Dn)
  | false => exact iteF ((p.2 rfl).run σ A H1 (o.keep e1 g1) (x.ek o e1 g1) Dn)⟩
theorem wr_asg (h : Wq c te e W Φ) : Wr c (tAsg te g) e W Φ := ⟨fun σ A H o x Dn => h.run σ A H o x _⟩
theorem wr_ret (h : Wq c te e W Φ) : Wr c (tRet te) e W Φ := ⟨fun σ A H o x Dn => h.run σ A H o x _⟩
theorem wr_drop (h : Wq c te e W Φ) : Wr c (tDrop te) e W Φ := ⟨fun σ A H o x Dn => h.run σ A H o x _⟩
/-- raise C(x), one field -/
theorem wr_raiseTooHigh {sl : List Slo} {nn : Nat} {C : Addr} {ta : TA} (h : Wa c ta ⟨sl, nn⟩ fun ds n => ∃ p, ds = [.py p] ∧ Φ C (some [("limit", p)]) ⟨sl, n⟩) : Wr c (tRaiseTooHigh C W ta) ⟨sl, nn⟩ W Φ := ⟨fun σ A H o x Dn => by
  refine h.run σ A H o _ fun vs H1 ds n p e1 g1 y => ?_
  obtain ⟨p, rfl, q⟩ := p
  obtain ⟨v, rfl, yv⟩ : ∃ v, vs = [v] ∧ DX c A H1 v (.py p) := by
    match vs, y with
    | [v], ⟨yv, _⟩ => exact ⟨v, rfl, yv⟩
  refine ⟨v, rfl, fun d hd => ?_⟩
  have o1 := o.keep e1 g1
  have e2 : Ek c H1 (upd H1 d (.xd [("limit", v)])) := Ek.new hd
  have o2 := o1.keep e2 (g1.new hd)
  refine x σ A _ ⟨sl, n⟩ (.ref C) (some d) C (some [("limit", p)]) q (Kp.ek (e1.trans e2)) (fun _ z => .inl z) o2 ⟨rfl, d, _, rfl, fun z => o1.al d z hd, upd_same, rfl, ?_, True.intro⟩
  exact DX.keep (d := .py p) e2 o.k yv⟩
end
/-! ## promises -/
def SpR {ι : Type} (K : PySem.W.Frag) (ar : ι → List D) (pre : ι → Nat → Prop) (post : ι → Nat → Addr → XFs → Nat → Prop) : Sp := fun vs H _ E =>
  ∃ (c : Cy) (n : Nat) (z : ι), c.K = K ∧ Good c n H ∧ DXs c c.S0 H vs (ar z) ∧ pre z n ∧ ∀ (cls : Value) (od : Option Addr) (H' : Hp) (cl : Addr) (fs : XFs) (m : Nat), post z n cl fs m → Ek c H H' → Good c m H' → XD c c.S0 H' cl fs cls od → E cls od H'
theorem sr_len {ι : Type} {K : PySem.W.Frag} {ar : ι → List D} {pre : ι → Nat → Prop} {post : ι → Nat → Addr → XFs → Nat → Prop} {m : Nat} (hl : ∀ x, (ar x).length = m) (vs : List V) (H : Hp) (Q : VK) (E : XK) (h : SpR K ar pre post vs H Q E) : vs.length = m := by
  obtain ⟨c, n, z, hK, g, x, hp, k⟩ := h
  rw [x.len, hl z]
/-- what a def's body does with what it raises -/
abbrev WF (E : XK) : WX := fun cls d _ H => E cls d H
theorem body_r {ι : Type} {K : PySem.W.Frag} {N : List Str} {ar : ι → List D} {pre : ι → Nat → Prop} {post : ι → Nat → Addr → XFs → Nat → Prop} {t : TS} {E : XK} (hnm : ∀ x, (ar x).all D.nm = true)
    (rd : ∀ (c : Cy) (n : Nat) (x : ι), c.K = K → pre x n → Wr c t ⟨Slo.of (ar x) ++ List.replicate (N.length - (ar x).length) .emp, n⟩ (WF E) fun cl fs e => post x n cl fs e.n)
    (vs : List V) (H : Hp) (Q : VK) (h : SpR K ar pre post vs H Q E) : t { nx := fun _ H' => Q .non H', rt := Q } (L2.start N vs) H := by
  obtain ⟨c, n, z, hK, g, x, hp, k⟩ := h
  have o := start_ok (N := N) g x (hnm z)
  have noown : ∀ a, ¬ ownA (L2.start N vs) (Slo.of (ar z) ++ List.replicate (N.length - (ar z).length) Slo.emp) a := fun a ⟨i, es, y, _⟩ => by
    by_cases hi : i < (ar z).length
    · rw [List.getElem?_append_left (by unfold Slo.of; rw [List.length_map]; exact hi)] at y
      unfold Slo.of at y
      rw [List.getElem?_map, List.getElem?_eq_getElem hi] at y
      cases y
    · rw [List.getElem?_append_right (by unfold Slo.of; rw [List.length_map]; omega), List.getElem?_replicate] at y
      split at y <;> cases y
  refine (rd c n z hK hp).run _ _ H o (fun σ' A' H' e' cls od cl fs p kp _ o' xd => ?_) _
  exact k cls od H' cl fs e'.n p (fun a u nn z => kp a u (fun y => y.elim nn fun y => noown a y) z) o'.good (xd.less fun a z => o'.sub a (.inl z))
/-- a call that surely raises -/
theorem wq_call {ι : Type} {K : PySem.W.Frag} {ar : ι → List D} {pre : ι → Nat → Prop} {post : ι → Nat → Addr → XFs → Nat → Prop} {c : Cy} {sl : List Slo} {nn : Nat} {W : WX} {Φ : Addr → XFs → En → Prop} {ta : TA} (hK : K = c.K)
    (h : Wa c ta ⟨sl, nn⟩ fun ds n => ds.all argOk = true ∧ ∃ z, ds.map arg = ar z ∧ pre z n ∧ ∀ cl fs m, post z n cl fs m → Φ cl fs ⟨sl, m⟩) : Wq c (tCallS (SpR K ar pre post) (WE W) ta) ⟨sl, nn⟩ W Φ := ⟨fun σ A H o x Q => by
  refine h.run σ A H o _ fun vs H1 ds n p e1 g1 y => ?_
  have o1 := o.keep e1 g1
  obtain ⟨p1, z, p2, p3, p4⟩ := p
  subst hK
  refine ⟨c.at_ A o1.at_.k, n, z, rfl, ⟨o1.at_.al, g1.kl⟩, by rw [← p2]; exact dxs_arg o1.at_ p1 y, p3, fun cls od H' cl fs m q ek g' xd => ?_⟩
  have ek' : Ek c H1 H' := ek
  have g2 : Good c m H' := ⟨fun b w => g'.al b (o1.at_.s b w), g'.kl⟩
  exact x σ A H' ⟨sl, m⟩ cls od cl fs (p4 cl fs m q) (Kp.ek (e1.trans ek')) (fun _ z => .inl z) (o1.keep ek' g2) xd⟩
/-! ## two promises of one def -/
def SpO (s1 s2 : Sp) : Sp := fun vs H Q E => s1 vs H Q E ∨ s2 vs H Q E
theorem FnOk.or {P : Program} {w : World} {K : PySem.W.Frag} {mg : Str → Option Value} {base : Heap} {k : Nat} {f : Addr} {fd : FuncData} {ps : List Str} {s1 s2 : Sp} (F : FnOk P w K mg base CX0 k f fd ps s1) (G : FnOk P w K mg base (L2.CX P w) k f fd ps s2) : FnOk P w K mg base (L2.CX P w) k f fd ps (SpO s1 s2) :=
  ⟨fun vs H Q E h => h.elim (F.len vs H Q E) (G.len vs H Q E), fun A outer s H args us vs Q E hr e0 hb hv hs => by
    rcases hs with hs | hs
    · refine codeAny_mono (F.run A outer s H args us vs Q E hr e0 hb hv hs) fun r s' q => ?_
      cases r with
      | ok fl => cases fl <;> exact q
      | error e => exact (show False from q).elim
    · exact G.run A outer s H args us vs Q E hr e0 hb hv hs⟩
end Wx

/-! ### part We2 -/
set_option Elab.async false
set_option linter.all false
set_option maxRecDepth 100000
set_option maxHeartbeats 1000000
set_option autoImplicit false
/-! o * n by an own __mul__; try. -/
namespace Wx
open PySem L2 PyProof.Rows
structure MulK (K : PySem.W.Frag) (C : Addr) : Prop where
  sf : PySem.W.selfFirst K C = true
  hr : PySem.W.findIn K (.ref C) "__rmul__" = some none
  h1 : ∃ fo, PySem.W.findIn K (.type "int") "__mul__" = some fo
  h2 : ∃ ro, PySem.W.findIn K (.type "int") "__rmul__" = some ro
  hs : PySem.W.subIn K (.type "int") (.ref C) = some false
section
variable {X : Cx} {CX : CXT} {k : Nat} {C f : Addr} {fd : FuncData} {ps : List Str} {sp : Sp}
theorem mulO_run {E : L2.St → XK} (F : FnOk X.prog X.w X.K X.mg X.base CX k f fd ps sp) (hs : PySem.W.findIn X.K (.ref C) "__mul__" = some (some (.ref f))) (hf : PySem.W.isFn X.K (.ref f) = true) (mk : MulK X.K C) (hb : Binds X.K fd ps []) (hr : Room k X.A)
    {pins : List (Addr × Obj)} {σ : L2.St} {H : Hp} {s : Shared} {Q : VK} {u : Value} {a dx : Addr} {i : Int} {fs : List (Str × V)} (hx : PassesAt CX X σ (E σ)) (I : Inv X pins σ H s) (ry : RelV (.int i) u) (ha : H a = some (.ins C dx fs)) (h : sp [.ref a, .int i] H Q (E σ)) :
    wpAny (model X.prog X.w) X.A (binaryOp .Mult (.ref a) u) (EP X pins σ Q) X.xe s := by
  obtain ⟨mA, O, _⟩ := ins_get I.hok ha
  obtain ⟨od, J, _⟩ := O.look
  obtain ⟨m, hF⟩ := I.fr
  obtain ⟨fo, h1⟩ := mk.h1
  obtain ⟨ro, h2⟩ := mk.h2
  obtain ⟨t, rfl⟩ := ry
  refine PySem.W.ksp_binT (op := .Mult) (T := "int") (rc := none) hF I.ok.mod.kin J rfl mk.sf hs hf mk.hr (.inl rfl) h1 h2 mk.hs (wpAny_mono (run_fnS (us := [.ref a, .int i t]) (vs := [.ref a, .int i]) (Q := Q) F hr hb hx I (.cons rfl (.cons ⟨t, rfl⟩ .nil)) h) (fun v' s' z => back_of z) fun _ _ z => z)
/-- o * n, nothing raised -/
def rMULO (C : Addr) (sp : Sp) : R2 := fun x y H Q => ∃ a i dx fs, x = .ref a ∧ y = .int i ∧ H a = some (.ins C dx fs) ∧ sp [.ref a, .int i] H Q E0
theorem opMULO (F : FnOk X.prog X.w X.K X.mg X.base CX0 k f fd ps sp) (hs : PySem.W.findIn X.K (.ref C) "__mul__" = some (some (.ref f))) (hf : PySem.W.isFn X.K (.ref f) = true) (mk : MulK X.K C) (hb : Binds X.K fd ps []) (hr : Room k X.A) : OpR X (binaryOp .Mult) (rMULO C sp) := by
  intro pins s σ H x y v u Q I rx ry h
  obtain ⟨a, i, dx, fs, rfl, rfl, ha, hsp⟩ := h
  cases rx
  exact mulO_run (E := fun _ => E0) F hs hf mk hb hr (fun _ _ _ _ _ _ z => z.elim) I ry ha hsp
/-- o * n that may raise -/
def tMulX (C : Addr) (sp : Sp) (W : WX) (ta tb : TE) : TE := fun σ H Q => ta σ H fun x H1 => tb σ H1 fun y H2 => ∃ a i dx fs, x = .ref a ∧ y = .int i ∧ H2 a = some (.ins C dx fs) ∧ sp [.ref a, .int i] H2 Q (WE W σ)
theorem pe_mulX {W : WX} {a b : Expr} {pos : Pos} {ta tb : TE} (F : FnOk X.prog X.w X.K X.mg X.base (L2.CX X.prog X.w) k f fd ps sp) (hs : PySem.W.findIn X.K (.ref C) "__mul__" = some (some (.ref f))) (hf : PySem.W.isFn X.K (.ref f) = true) (mk : MulK X.K C) (hb : Binds X.K fd ps []) (hr : Room k X.A) (tk : Takes X W) (ha : PE X a ta) (hb' : PE X b tb) :
    PE X (.BinOp a .Mult b pos) (tMulX C sp W ta tb) := by
  refine ⟨fun pins s σ H Q I h => ?_⟩
  refine wpAny_BinOp (binT ha hb' I h fun v u s2 x y H2 I2 rx ry q => ?_)
  obtain ⟨p, i, dx, fs, rfl, rfl, hp, hsp⟩ := q
  cases rx
  exact mulO_run (E := WE W) F hs hf mk hb hr (passAt tk σ) I2 ry hp hsp
end
section
variable {c : Cy} {sl : List Slo} {nn n : Nat} {C : Addr} {fs : List (Str × PyData)} {te : TE} {ta tb : TE} {Φ : D → Nat → Prop} {K : PySem.W.Frag}
theorem rw_mulO {ι : Type} {ar : ι → List D} {pre : ι → Nat → Prop} {post : ι → Nat → D → Nat → Prop} {i : Int} (hK : K = c.K) (h : ∃ z, [D.ins C fs, .py (.int i)] = ar z ∧ pre z n ∧ ∀ d m, post z n d m → outD d = true ∧ Φ d m) : Rw c (rMULO C (SpX K ar pre post)) (.ins C fs) (.py (.int i)) n Φ := ⟨fun A H v1 v2 a x1 x2 Q k => by
  obtain ⟨z, p2, p3, p4⟩ := h
  have y1 := x1
  obtain ⟨b, dx, ws, rfl, nA, r, _⟩ := y1
  have e2 : v2 = .int i := Da.int_eq x2
  subst e2
  exact ⟨b, i, dx, ws, rfl, rfl, r, sx_at (ds := [.ins C fs, .py (.int i)]) hK a ⟨x1, x2, True.intro⟩ rfl z p2 p3 p4 k⟩⟩
/-- o * n, its promise one of two: this way it does not raise -/
theorem wp_mulX {ι : Type} {ar : ι → List D} {pre : ι → Nat → Prop} {post : ι → Nat → D → Nat → Prop} {s2 : Sp} {W : WX} (hK : K = c.K)
    (h : Wp c ta ⟨sl, nn⟩ fun d n => ∃ fs, d = .ins C fs ∧ Wp c tb ⟨sl, n⟩ fun d2 n2 => ∃ i : Int, d2 = .py (.int i) ∧ ∃ z, [D.ins C fs, .py (.int i)] = ar z ∧ pre z n2 ∧ ∀ d m, post z n2 d m → outD d = true ∧ Φ d m) : Wp c (tMulX C (SpO (SpX K ar pre post) s2) W ta tb) ⟨sl, nn⟩ Φ := ⟨fun σ A H o Q k => by
  refine h.run σ A H o _ fun v H1 d n p e1 g1 x => ?_
  obtain ⟨fs, rfl, p⟩ := p
  have o1 := o.keep e1 g1
  refine p.run σ A H1 o1 _ fun w H2 d2 n2 p e2 g2 y => ?_
  obtain ⟨i, rfl, z, p2, p3, p4⟩ := p
  cases Da.int_eq y
  have x2 := x.keep e2 o.k
  have x3 := x2
  obtain ⟨a, dx, ws, rfl, nA, r, _⟩ := x3
  exact ⟨a, i, dx, ws, rfl, rfl, r, .inl (sx_at (ds := [.ins C fs, .py (.int i)]) hK (o1.keep e2 g2).at_ ⟨x2, .int i, True.intro⟩ rfl z p2 p3 p4 fun v H3 d m q e3 g3 y => k v H3 d m q ((e1.trans e2).trans e3) g3 y)⟩⟩
/-- .. this way it surely raises -/
theorem wq_mulX {ι : Type} {ar : ι → List D} {pre : ι → Nat → Prop} {post : ι → Nat → Addr → XFs → Nat → Prop} {s1 : Sp} {W : WX} {Ψ : Addr → XFs → En → Prop} (hK : K = c.K)
    (h : Wp c ta ⟨sl, nn⟩ fun d n => ∃ fs, d = .ins C fs ∧ Wp c tb ⟨sl, n⟩ fun d2 n2 => ∃ i : Int, d2 = .py (.int i) ∧ ∃ z, [D.ins C fs, .py (.int i)] = ar z ∧ pre z n2 ∧ ∀ cl fs m, post z n2 cl fs m → Ψ cl fs ⟨sl, m⟩) : Wq c (tMulX C (SpO s1 (SpR K ar pre post)) W ta tb) ⟨sl, nn⟩ W Ψ := ⟨fun σ A H o xx Q => by
  refine h.run σ A H o _ fun v H1 d n p e1 g1 x => ?_
  obtain ⟨fs, rfl, p⟩ := p
  have o1 := o.keep e1 g1
  refine p.run σ A H1 o1 _ fun w H2 d2 n2 p e2 g2 y => ?_
  obtain ⟨i, rfl, z, p2, p3, p4⟩ := p
  cases Da.int_eq y
  have x2 := x.keep e2 o.k
  have x3 := x2
  obtain ⟨a, dx, ws, rfl, nA, r, _⟩ := x3
  have o2 := o1.keep e2 g2
  subst hK
  refine ⟨a, i, dx, ws, rfl, rfl, r, .inr ⟨c.at_ A o2.at_.k, n2, z, rfl, ⟨o2.at_.al, g2.kl⟩, by rw [← p2]; exact dxs_arg (ds := [.ins C fs, .py (.int i)]) o2.at_ rfl ⟨x2, .int i, True.intro⟩, p3, fun cls od H' cl gs m q ek g' xd => ?_⟩⟩
  have ek' : Ek c H2 H' := ek
  have g3 : Good c m H' := ⟨fun b w => g'.al b (o2.at_.s b w), g'.kl⟩
  exact xx σ A H' ⟨sl, m⟩ cls od cl gs (p4 cl gs m q) (Kp.ek ((e1.trans e2).trans ek')) (fun _ z => .inl z) (o2.keep ek' g3) xd⟩
/-- try .. except X as n: nothing raised -/
theorem ws_tryN {tb : WX → TS} {e : En} {P : Po} {cC : Value} {i : Nat} {ts : Addr → Value → Option Addr → TS} {Wout : WX} (h : ∀ W, Ws c (tb W) e P) : Ws c (fun D σ H => tb (wAs K cC i ts Wout D) D σ H) e P :=
  ⟨fun σ A H o Dn nx rt bk ct => (h _).run σ A H o Dn nx rt bk ct⟩
/-- .. surely raised, and caught -/
theorem ws_tryR {tb : WX → TS} {e : En} {P : Po} {cC : Value} {i : Nat} {ts : Addr → Value → Option Addr → TS} {Wout : WX} {Ψ : Addr → XFs → En → Prop} (h : ∀ W, Wr c (tb W) e W Ψ)
    (s : ∀ (σ : L2.St) (A : Addr → Prop) (H : Hp) (e' : En) (cl : Addr) (fs : XFs) (od : Option Addr), Ψ cl fs e' → Ok c A H σ e' → XD c A H cl fs (.ref cl) od → PySem.W.exmOne K (.ref cl) cC = some true ∧
      ∀ (a : Addr), H a = none → ∀ Dn : Ends, Gx c σ H e' P.nx Dn.nx → Rx c σ H e' P.rt Dn.rt → Gx c σ H e' P.bk Dn.bk → Gx c σ H e' P.ct Dn.ct →
        ts a (.ref cl) od { nx := fun σ' H' => Dn.nx (σ'.set i none) H', rt := Dn.rt, bk := fun σ' H' => Dn.bk (σ'.set i none) H', ct := fun σ' H' => Dn.ct (σ'.set i none) H' } (σ.set i (some (.ref a))) H) :
    Ws c (fun D σ H => tb (wAs K cC i ts Wout D) D σ H) e P :=
  ⟨fun σ A H o Dn nx rt bk ct => by
    refine (h _).run σ A H o (fun σ' A' H' e' cls od cl fs p kp w o' xd => ?_) Dn
    obtain ⟨rfl, xd'⟩ := xd
    obtain ⟨z1, z2⟩ := s σ' A' H' e' cl fs od p o' ⟨rfl, xd'⟩
    exact ⟨true, z1, fun _ a ha => z2 a ha Dn (nx.after o kp w o') (rt.after kp w) (bk.after o kp w o') (ct.after o kp w o'), fun z => nomatch z⟩⟩
end
end Wx

/-! ### part We3 -/
set_option Elab.async false
set_option linter.all false
set_option maxRecDepth 100000
set_option maxHeartbeats 1000000
set_option autoImplicit false
/-! Bundles of defs that raise; o * n by the bundle; a tuple at a global; abs. -/
namespace Wx
open PySem L2
structure StdE (P : Program) (w : World) (K : PySem.W.Frag) (mg : Str → Option Value) (base : Heap) (k : Nat) (x : Str) (ps : List Str) (sp : Sp) : Prop where
  ex : ∃ f fd, FnOk P w K mg base (L2.CX P w) k f fd ps sp ∧ mg x = some (.ref f) ∧ PySem.W.keepIn K (.ref f) = true ∧ Binds K fd ps []
structure StdX (P : Program) (w : World) (K : PySem.W.Frag) (mg : Str → Option Value) (base : Heap) (k : Nat) (C : Addr) (m : Str) (sp : Sp) : Prop where
  ex : ∃ g fd ps, Meth K C m g ∧ FnOk P w K mg base (L2.CX P w) k g fd ps sp ∧ Binds K fd ps []
def tCallE (sp : Sp) (W : WX) (t : TA) : TE := tCallS sp (WE W) t
section
variable {X : Cx} {k : Nat} {x : Str} {ps : List Str} {sp : Sp} {e : Expr} {es : List Expr} {p pos : Pos} {t : TA} {W : WX} {C : Addr} {a b : Expr} {ta tb : TE}
theorem pe_stdE (F : StdE X.prog X.w X.K X.mg X.base k x ps sp) (hr : Room k X.A) (tk : Takes X W) (hg : Gl X x) (ha : PA X (e :: es) t) (hdb : (x == ("__debug__" : Str)) = false := by decide)
    (he : starEach (e :: es) X.env = (false, eval e X.env) :: starEach es X.env := by rfl) (hpl : (backTo pos (starEach es X.env)).any (·.1) = false := by rfl) : PE X (.Call (.Name x p) (e :: es) [] pos) (tCallE sp W t) := by
  obtain ⟨f, fd, h1, h2, h3, h4⟩ := F.ex
  exact pe_callS h1 hr hg h2 h3 h4 (passAt tk) ha hdb he hpl
theorem mulS (F : StdM X.prog X.w X.K X.mg X.base k C "__mul__" sp) (mk : MulK X.K C) (hr : Room k X.A) : OpR X (binaryOp .Mult) (rMULO C sp) := by
  obtain ⟨g, fd, ps, h1, h2, h3⟩ := F.ex
  exact opMULO h2 h1.at_ h1.fn mk h3 hr
theorem pe_mulXS (F : StdX X.prog X.w X.K X.mg X.base k C "__mul__" sp) (mk : MulK X.K C) (hr : Room k X.A) (tk : Takes X W) (ha : PE X a ta) (hb : PE X b tb) : PE X (.BinOp a .Mult b pos) (tMulX C sp W ta tb) := by
  obtain ⟨g, fd, ps, h1, h2, h3⟩ := F.ex
  exact pe_mulX h2 h1.at_ h1.fn mk h3 hr tk ha hb
theorem roomU {u k : Nat} (h : u + 16 * k + 200 < cLine) : u + 64 < cLine := by omega
theorem roomS {X : Cx} {k : Nat} {a : Addr} {pn : List (Addr × Obj)} (hr : Room k X.A) : (X.suite a pn).A.units + 64 < cLine := by
  have e : (X.suite a pn).A.units = X.A.units := rfl
  rw [e]
  have := hr.un
  omega
theorem bt_abs : bootBuiltins "abs" = some (.builtin "abs") := by decide +kernel
def rREPX (K : PySem.W.Frag) : List V → Hp → VK → Prop := fun xs H Q => rREPR K xs H Q ∨ ∃ x : Str, xs = [.str x] ∧ (reprText x).length ≤ sizeLine ∧ Q (.str (reprText x)) H
theorem reprX {X : Cx} {K : PySem.W.Frag} {k : Nat} (hK : X.K = K) (gd : X.A.guards = some []) (hr : Room k X.A) : CallR X (.builtin "repr") (rREPX K) := by
  intro pins s σ H xs us Q I r h
  rcases h with h | ⟨x, rfl, hl, q⟩
  · exact reprK hK gd hr pins s σ H xs us Q I r h
  · cases r with
    | cons r1 r2 =>
      cases r2
      obtain ⟨t, rfl⟩ := r1
      exact PySem.P.repr_of_str ⟨.str _, H, I.tok _, ⟨_, rfl⟩, q⟩ hl
theorem cw_reprX {c : Cy} {Φ : D → Nat → Prop} {n : Nat} {K : PySem.W.Frag} {p : PyData} {k W : Nat} (hK : K = c.K) (hr : isRef p = true) (hs : Sh k W p) (h1 : k ≤ 60) (h2 : W ≤ 200000) (h : Φ (.py (.str p.shown)) n) : Cw c (rREPX K) [.py p] n Φ := ⟨fun A H vs a x Q k' => .inl ((cw_repr hK hr hs h1 h2 h).run A H vs a x Q k')⟩
theorem cw_reprS {c : Cy} {Φ : D → Nat → Prop} {n : Nat} {K : PySem.W.Frag} {x : Str} (hl : (reprText x).length ≤ sizeLine) (h : Φ (.py (.str (reprText x))) n) : Cw c (rREPX K) [.py (.str x)] n Φ := ⟨fun A H vs a y Q k' => .inr (by
  match vs, y with
  | [v], ⟨xv, _⟩ =>
    cases Da.str_eq xv
    exact ⟨x, rfl, hl, k' _ H _ n h Ek.refl a.good (.str _)⟩)⟩
theorem high_len : (reprText (Str.ofString "high")).length ≤ sizeLine := by
  have : (reprText (Str.ofString "high")).length = 6 := by decide +kernel
  rw [this]
  decide
theorem rw_ntI {c : Cy} {Φ : D → Nat → Prop} {n : Nat} {C : Addr} {fs : List (Str × PyData)} (h : Φ (.py (.bool true)) n) : Rw c rNTN (.ins C fs) (.py .none) n Φ := ⟨fun A H v1 v2 a x1 x2 Q k => by
  obtain ⟨b, dx, ws, rfl, _⟩ := x1
  cases x2
  exact ⟨rfl, k _ H _ n h Ek.refl a.good (.bl _)⟩⟩
/-- a tuple at a global -/
def GTup (K : PySem.W.Frag) (mg : Str → Option Value) (x : Str) (d : PyData) : Prop := ∃ a, mg x = some (.ref a) ∧ ∀ S H, Da K S H (.ref a) d
def tGT (K : PySem.W.Frag) (d : PyData) : TE := fun σ H Q => ∀ a : Addr, (∀ S H, Da K S H (.ref a) d) → Q (.ref a) H
theorem pe_gtup {K : PySem.W.Frag} {d : PyData} (hK : X.K = K) (h : GTup K X.mg x d) (hg : Gl X x) (hd : (x == ("__debug__" : Str)) = false := by decide) : PE X (.Name x pos) (tGT K d) := by
  obtain ⟨a, h1, h2⟩ := h
  exact ⟨fun pins s σ H Q I q => (pe_glob (v := .ref a) hg h1 rfl hd).run pins s σ H Q I (q a h2)⟩
def rABS : List V → Hp → VK → Prop := fun xs H Q => ∃ i, xs = [.int i] ∧ Q (.int (if i < 0 then -i else i)) H
theorem absR : CallR X (.builtin "abs") rABS := call_abs
end
section
variable {c : Cy} {sl : List Slo} {nn n : Nat} {Φ : D → Nat → Prop} {K : PySem.W.Frag}
theorem wp_gtup {d : PyData} (hK : K = c.K) (q : Φ (.py d) nn) : Wp c (tGT K d) ⟨sl, nn⟩ Φ := ⟨fun σ A H o Q k => fun a h => by
  subst hK
  exact k (.ref a) H (.py d) nn q Ek.refl o.good (h _ _)⟩
theorem cw_abs {ds : List D} (h : One ds fun d => Id1 d fun i => Φ (.py (.int (if i < 0 then -i else i))) n) : Cw c rABS ds n Φ := ⟨fun A H vs a x Q k => by
  obtain ⟨v, d, rfl, x, p⟩ := one_of h x
  match d, p, x with
  | .py (.int i), p, x => cases Da.int_eq x; exact ⟨i, rfl, k _ H _ n p Ek.refl a.good (.int _)⟩⟩
end
theorem wq_callE {ι : Type} {K : PySem.W.Frag} {ar : ι → List D} {pre : ι → Nat → Prop} {post : ι → Nat → Addr → XFs → Nat → Prop} {c : Cy} {sl : List Slo} {nn : Nat} {W : WX} {Φ : Addr → XFs → En → Prop} {ta : TA} (hK : K = c.K)
    (h : Wa c ta ⟨sl, nn⟩ fun ds n => ds.all argOk = true ∧ ∃ z, ds.map arg = ar z ∧ pre z n ∧ ∀ cl fs m, post z n cl fs m → Φ cl fs ⟨sl, m⟩) : Wq c (tCallE (SpR K ar pre post) W ta) ⟨sl, nn⟩ W Φ := wq_call hK h
end Wx

/-! ### part Wk -/
set_option Elab.async false
set_option linter.all false
set_option maxRecDepth 100000
set_option maxHeartbeats 1000000
set_option autoImplicit false
/-! Lists of instances: `in`, items, append; pop in a comprehension; zip. -/
namespace GQ
open PySem PySem.Spec PyProof.Rows PySem.SeqAt MeetsSeq MeetsSeq2 MeetsSeq3 SeqRoads2
open AutoSeq1 (wpAny_loadPart')
section
variable {prog : Program} {w : World} {A : Around} {R : Result → Shared → Prop}
theorem contains_loopG (l : Addr) (x : Value) (N : Nat) (I : Nat → Shared → Prop) (T : Shared → Prop)
    (hl : ∀ i s, I i s → ∃ (items : Array Value) (n : Nat), s.heap.get? l = some { cls := .type "list", data := .seq items n } ∧ items.size = N ∧
      ∀ (h1 : i < items.size), wpAny (model prog w) A.in1 (eqBool items[i] x) (fun r s' => (r = true ∧ T s') ∨ (r = false ∧ I (i + 1) s')) (fun e s' => R (.error e) s') s)
    (no : ∀ s, I N s → R (.ok (.ret (.bool false))) s) (yes : ∀ s, T s → R (.ok (.ret (.bool true))) s) (k : Nat) :
    ∀ i : Nat, N - i = k → i ≤ N → ∀ s, I i s →
      wpAny (model prog w) A.in1 (Builtin.«list.__contains__.loop» ⟨[.ref l, x, rawInt i], []⟩) (FinOf prog w A R) (fun e s' => R (.error e) s') s := by
  induction k with
  | zero =>
    intro i hk hi s h
    obtain ⟨items, n, hl1, hs1, _⟩ := hl _ _ h
    have hi' : i = N := by omega
    have hR : R (.ok (.ret (.bool false))) s := no s (hi' ▸ h)
    obtain ⟨hp, g, d, tk, os⟩ := s
    wp_walk using wpAny_loadPart' hl1
    have hi1 : items[((i : Nat) : Int).toNat]? = none := by simp; omega
    rw [hi1]
    wp_walk
    exact hR
  | succ k ih =>
    intro i hk hi s h
    obtain ⟨items, n, hl1, hs1, turn⟩ := hl _ _ h
    have hlt : i < items.size := by omega
    have ht := turn hlt
    obtain ⟨hp, g, d, tk, os⟩ := s
    wp_walk using wpAny_loadPart' hl1
    have hi1 : items[((i : Nat) : Int).toNat]? = some items[i] := by simp [hlt]
    have hc : ((i : Int) + 1) = ((i + 1 : Nat) : Int) := by omega
    rw [hi1]
    refine wpAny_bind (wpAny_mono ht (fun r s2 h2 => ?_) fun _ _ x => x)
    rcases h2 with ⟨hr, h2⟩ | ⟨hr, h2⟩
    · subst hr
      have q := yes _ h2
      obtain ⟨hp2, g2, d2, tk2, os2⟩ := s2
      wp_walk
      exact q
    · subst hr
      have hrec := ih (i + 1) (by omega) (by omega) s2 h2
      obtain ⟨hp2, g2, d2, tk2, os2⟩ := s2
      wp_walk
      rw [hc]
      exact ⟨plainId_quiet plain_contains_loop _, codeAny_builtin entry_contains_loop (by
        rw [Around.under_plainId plain_contains_loop _]
        exact hrec)⟩
theorem list_containsG (l : Addr) (x : Value) (N : Nat) (I : Nat → Shared → Prop) (T : Shared → Prop)
    (hl : ∀ i s, I i s → ∃ (items : Array Value) (n : Nat), s.heap.get? l = some { cls := .type "list", data := .seq items n } ∧ items.size = N ∧
      ∀ (h1 : i < items.size), wpAny (model prog w) A.in1 (eqBool items[i] x) (fun r s' => (r = true ∧ T s') ∨ (r = false ∧ I (i + 1) s')) (fun e s' => R (.error e) s') s)
    (no : ∀ s, I N s → R (.ok (.ret (.bool false))) s) (yes : ∀ s, T s → R (.ok (.ret (.bool true))) s) {s : Shared} (h : I 0 s) :
    wpAny (model prog w) A.in1 (Builtin.«list.__contains__» ⟨[.ref l, x], []⟩) (FinOf prog w A R) (fun e s' => R (.error e) s') s := by
  obtain ⟨items, n, hl1, hs1, _⟩ := hl _ _ h
  have hrec := contains_loopG (A := A) (R := R) l x N I T hl no yes _ 0 rfl (Nat.zero_le _) s h
  obtain ⟨hp, g, d, tk, os⟩ := s
  wp_walk using wpAny_loadPart' hl1
  exact ⟨plainId_quiet plain_contains_loop _, codeAny_builtin entry_contains_loop (by
    rw [Around.under_plainId plain_contains_loop _]
    exact hrec)⟩
end
section
variable {prog : Program} {w : World} {A : Around} {E : Value → Shared → Prop} {s : Shared}
theorem in_listG {l : Addr} {x : Value} {N : Nat} {Q : Value → Shared → Prop} (I : Nat → Shared → Prop) (T : Shared → Prop)
    (hl : ∀ i s, I i s → ∃ (items : Array Value) (n : Nat), s.heap.get? l = some { cls := .type "list", data := .seq items n } ∧ items.size = N ∧
      ∀ (h1 : i < items.size), wpAny (model prog w) A.in1 (eqBool items[i] x) (fun r s' => (r = true ∧ T s') ∨ (r = false ∧ I (i + 1) s')) E s)
    (no : ∀ s, I N s → Q (.bool false) s) (yes : ∀ s, T s → Q (.bool true) s) (h : I 0 s) : wpAny (model prog w) A (compareOp .In x (.ref l)) Q E s := by
  obtain ⟨items, n, hl1, _, _⟩ := hl _ _ h
  show wpAny _ A (do return .bool (← contains (.ref l) x)) Q E s
  refine wpAny_bind (wpAny_contains_slot ⟨_, hl1, rfl⟩ F.slot_list_contains (wpAny_mono (call_here F.slot_list_contains ⟨_, hl1, rfl⟩ F.entry_list_contains (F.args_list_contains_2 _ _) (Q := fun v s' => ∃ b, v = .bool b ∧ Q (.bool b) s') (list_containsG (R := wants (fun v s' => ∃ b, v = .bool b ∧ Q (.bool b) s') E) l x N I T hl (fun s' q => ⟨false, rfl, no s' q⟩) (fun s' q => ⟨true, rfl, yes s' q⟩) h)) (fun v s' hv => ?_) fun _ _ e => e))
  obtain ⟨b, rfl, hq⟩ := hv
  exact wpAny_truthy_bool (wpAny_pure hq)
end
end GQ
namespace Wx
open PySem L2
/-- x in l, a list of instances of C: the items' own == one after the other -/
def rINO (K : PySem.W.Frag) (C : Addr) (sp : Sp) : R2 := fun x y H Q => ∃ l a xs dx fs, x = .ref a ∧ H a = some (.ins C dx fs) ∧ y = .ref l ∧ H l = some (.lst xs) ∧ ∃ W : Nat → Hp → Prop, W 0 H ∧
  (∀ i H', i < xs.length → W i H' → H' l = some (.lst xs) ∧ ∃ b dy gs, xs[i]? = some (.ref b) ∧ H' b = some (.ins C dy gs) ∧ (∃ ha, H' a = some (.ins C dx ha)) ∧ (b = a → (∀ p xs ys, SqT K H' p xs → SqT K H' p ys → xs = ys) → Q (.bl true) H') ∧
    (b ≠ a → sp [.ref b, .ref a] H' (fun v H'' => ∃ r : Bool, v = .bl r ∧ (if r then Q (.bl true) H'' else W (i + 1) H'')) E0)) ∧
  ∀ H', W xs.length H' → H' l = some (.lst xs) ∧ Q (.bl false) H'
section
variable {X : Cx} {k : Nat} {f C : Addr} {fd : FuncData} {ps : List Str} {sp : Sp}
theorem opINO (F : FnOk X.prog X.w X.K X.mg X.base CX0 k f fd ps sp) (hs : PySem.W.findIn X.K (.ref C) "__eq__" = some (some (.ref f))) (hf : PySem.W.isFn X.K (.ref f) = true) (hb : Binds X.K fd ps []) (hr : Room (k + 1) X.A) : OpR X (compareOp .In) (rINO X.K C sp) := by
  intro pins s σ H x y v u Q I rx ry h
  obtain ⟨l, a, xs, dx, fs, rfl, ha, rfl, hl, W, w0, wt, wz⟩ := h
  cases rx
  cases ry
  have hu := hr.units0
  refine GQ.in_listG (N := xs.length) (fun i s' => i ≤ xs.length ∧ ∃ H', Inv X pins σ H' s' ∧ W i H') (fun s' => ∃ H', Inv X pins σ H' s' ∧ Q (.bl true) H') (fun i s' q => ?_) (fun s' q => ?_) (fun s' q => ?_) ⟨Nat.zero_le _, H, I, w0⟩
  · obtain ⟨hi, H', I', wi⟩ := q
    have hl' : H' l = some (.lst xs) := by
      by_cases q : i < xs.length
      · exact (wt i H' q wi).1
      · have e : i = xs.length := by omega
        rw [e] at wi
        exact (wz H' wi).1
    obtain ⟨z, its, n, r, hlen, e⟩ := I'.lstM hl'
    refine ⟨its.toArray, n, e, by rw [List.size_toArray, ← r.length], fun h1 => ?_⟩
    have h1' : i < xs.length := by rw [r.length]; simpa using h1
    obtain ⟨_, b, dy, gs, hx, hb', ⟨ha2, ha'⟩, q1, q2⟩ := wt i H' h1' wi
    obtain ⟨vb, hvb, rvb⟩ := r.get hx
    have ev : its.toArray[i] = vb := by
      have : its[i]? = some its.toArray[i] := by
        have h1'' : i < its.length := by simpa using h1
        rw [List.getElem?_eq_getElem h1''] <;> simp
      rw [this] at hvb
      exact Option.some.inj hvb
    cases rvb
    rw [ev]
    by_cases hab : b = a
    · subst hab
      exact SeqAt.EqAt.same (A := X.A.in1) (s := s') (.ref b) X.prog X.w X.xe _ (.inl ⟨rfl, H', I', q1 rfl fun p xs ys z1 z2 => I'.tuple_inj z1 z2⟩)
    · refine GQ.eqBool_refG hab ?_
      obtain ⟨mA, O, _⟩ := ins_get I'.hok hb'
      obtain ⟨mB, O2, _⟩ := ins_get I'.hok ha'
      obtain ⟨od, J, _⟩ := O.look
      obtain ⟨od', J', _⟩ := O2.look
      obtain ⟨m, hF⟩ := I'.fr
      refine PySem.W.cmp_K (op := .Eq) (tb := .ref C) hr.in1.units0 hF I'.ok.mod.kin J J'.type (by simp [PySem.W.notFirst]) hs hf (wpAny_mono (eq_run (Q := fun r H'' => if r = true then Q (.bl true) H'' else W (i + 1) H'') F hb hr.in1 rfl I' (show RelV (V.ref a) (Value.ref a) from rfl) (q2 hab)) (fun v' s2 z => ?_) fun _ _ z => z)
      obtain ⟨r', H2, rfl, I2, q⟩ := z
      refine ⟨r', rfl, ?_⟩
      cases r' with
      | true => exact .inl ⟨rfl, H2, I2, q⟩
      | false => exact .inr ⟨rfl, by omega, H2, I2, q⟩
  · obtain ⟨_, H', I', wi⟩ := q
    exact ⟨.bl false, H', I', rfl, (wz H' wi).2⟩
  · obtain ⟨H', I', q⟩ := q
    exact ⟨.bl true, H', I', rfl, q⟩
end
end Wx

/-! ### part Wk2 -/
set_option Elab.async false
set_option linter.all false
set_option maxRecDepth 100000
set_option maxHeartbeats 1000000
set_option autoImplicit false
/-! A list is emptied by pop while a comprehension builds another one, which takes its name. -/
namespace Wx
open PySem L2
section
variable {c : Cy} {B : Addr → Prop} {H : Hp} {σ : St} {e : En}
/-- a place that nobody holds is written -/
theorem Ok.updD {D : Addr} {u : HO} (o : Ok c B H σ e) (hB : B D) (nS : ¬ c.S0 D) (hn : ∀ (j : Nat) (es : Ow), e.sl[j]? = some (Slo.own es) → σ[j]? = some (some (V.ref D)) → False) : Ok c B (upd H D u) σ e := by
  have nk : c.k ≠ some D := fun z => nS (c.hk D z)
  have kA : Kept B H (upd H D u) := fun b x nb q => by rw [upd_ne fun z => nb (by rw [z]; exact hB)]; exact q
  refine ⟨o.len, ⟨fun b z => ?_, fun b z => ?_⟩, o.sub, fun a z => ?_, fun j w z => ?_, fun j es z => ?_, o.sep⟩
  · rw [upd_ne fun q => nS (by rw [← q]; exact z)]; exact o.good.al b z
  · rw [upd_ne fun q => nk (by rw [← q]; exact z)]; exact o.good.kl b z
  · by_cases q : a = D
    · rw [q, upd_same]; exact fun w => nomatch w
    · rw [upd_ne q]; exact o.al a z
  · obtain ⟨nm, y, y1, y2⟩ := o.val j w z
    refine ⟨nm, y, y1, ?_⟩
    cases w with
    | py p => exact Da.keep kA y2
    | mine ds => cases nm
    | dct es =>
      obtain ⟨b, kvs, w1, w2, w3, w4⟩ := y2
      exact ⟨b, kvs, w1, w2, kA b _ w2 w3, w4.keep kA⟩
    | dcl es =>
      obtain ⟨b, kvs, od, w1, w2, w3, w4⟩ := y2
      exact ⟨b, kvs, od, w1, w2, kA b _ w2 w3, w4.keep kA⟩
    | brw es =>
      obtain ⟨b, ys, w1, w2, w3, w4, w5⟩ := y2
      exact ⟨b, ys, w1, w2, w3, by rw [upd_ne fun z => nS (by rw [← z]; exact w3)]; exact w4, w5.keep kA⟩
    | ins C fs =>
      obtain ⟨b, dx, vs, w1, w2, w3, w4⟩ := y2
      exact ⟨b, dx, vs, w1, w2, kA b _ w2 w3, w4.keep kA⟩
    | atom w => exact y2
    | kln => exact y2
    | lsx =>
      obtain ⟨b, ys, w1, w2, w3⟩ := y2
      exact ⟨b, ys, w1, w2, kA b _ w2 w3⟩
  · obtain ⟨b, y1, y3, y4⟩ := o.own j es z
    exact ⟨b, y1, y3.keep kA fun x r => by rw [upd_ne fun q => hn j es z (by rw [← q]; exact y1)]; exact r, y4⟩
/-- a place that nobody else holds gets a name -/
theorem Ok.take {D : Addr} {w : Ow} {i : Nat} (o : Ok c B H σ e) (hB : B D) (nS : ¬ c.S0 D) (hn : ∀ (j : Nat) (es : Ow), e.sl[j]? = some (Slo.own es) → σ[j]? = some (some (V.ref D)) → j = i) (t : OwAt c.K B H D w) (hi : i < e.sl.length) :
    Ok c B H (σ.set i (some (.ref D))) ⟨e.sl.set i (.own w), e.n⟩ := by
  refine ⟨by rw [List.length_set, List.length_set]; exact o.len, o.good, fun a z => ?_, o.al, fun j u h => ?_, fun j es h => ?_, fun j l es fs a h1 h2 h3 h4 => ?_⟩
  · rcases z with z | ⟨j, es, h1, h3⟩
    · exact o.sub a (.inl z)
    · by_cases q : i = j
      · subst q
        rw [List.getElem?_set_self (by rw [o.len]; exact hi)] at h3
        cases h3
        exact hB
      · rw [List.getElem?_set_ne q] at h3
        have h1' : e.sl[j]? = some (Slo.own es) := by rw [← List.getElem?_set_ne q]; exact h1
        exact o.sub a (.inr ⟨j, es, h1', h3⟩)
  · by_cases q : i = j
    · subst q
      have h' : (e.sl.set i (Slo.own w))[i]? = some (Slo.val u) := h
      rw [List.getElem?_set_self hi] at h'
      cases h'
    · have h' : e.sl[j]? = some (Slo.val u) := by rw [← List.getElem?_set_ne q]; exact h
      rw [List.getElem?_set_ne q]
      exact o.val j u h'
  · by_cases q : i = j
    · subst q
      have h' : (e.sl.set i (Slo.own w))[i]? = some (Slo.own es) := h
      rw [List.getElem?_set_self hi] at h'
      cases h'
      exact ⟨D, by rw [List.getElem?_set_self (by rw [o.len]; exact hi)], t, nS⟩
    · have h' : e.sl[j]? = some (Slo.own es) := by rw [← List.getElem?_set_ne q]; exact h
      rw [List.getElem?_set_ne q]
      exact o.own j es h'
  · have f : ∀ {m : Nat} {gs : Ow}, (e.sl.set i (Slo.own w))[m]? = some (Slo.own gs) → i ≠ m → e.sl[m]? = some (Slo.own gs) := fun {m gs} h q => by rw [← List.getElem?_set_ne q]; exact h
    by_cases q1 : i = j
    · by_cases q2 : i = l
      · rw [← q1, ← q2]
      · subst q1
        rw [List.getElem?_set_self (by rw [o.len]; exact hi)] at h3
        rw [List.getElem?_set_ne q2] at h4
        cases h3
        exact absurd (hn l fs (f h2 q2) h4).symm q2
    · by_cases q2 : i = l
      · subst q2
        rw [List.getElem?_set_self (by rw [o.len]; exact hi)] at h4
        rw [List.getElem?_set_ne q1] at h3
        cases h4
        exact absurd (hn j es (f h1 q1) h3).symm q1
      · rw [List.getElem?_set_ne q1] at h3
        rw [List.getElem?_set_ne q2] at h4
        exact o.sep j l es fs a (f h1 q1) (f h2 q2) h3 h4
theorem wipeE_emp {sl : List Slo} : ∀ {vs : List Nat}, (∀ v ∈ vs, sl[v]? = some Slo.emp) → wipeE sl vs = sl
  | [], _ => rfl
  | v :: vs, h => by
    show (wipeE sl vs).set v .emp = sl
    rw [wipeE_emp fun x z => h x (List.mem_cons_of_mem _ z)]
    refine List.ext_getElem? fun i => ?_
    by_cases q : v = i
    · subst q
      have := h v List.mem_cons_self
      rw [List.getElem?_set_self (List.getElem?_eq_some_iff.mp this).1, this]
    · rw [List.getElem?_set_ne q]
theorem wipe_at {vs : List Nat} {i : Nat} (h : i ∉ vs) : (wipe σ vs)[i]? = σ[i]? := by rw [wipe_get, if_neg fun z => h z.1]
theorem Ok.unwipe {sl : List Slo} {n : Nat} {vs : List Nat} (hv : ∀ v ∈ vs, sl[v]? = some Slo.emp) (o : Ok c B H (wipe σ vs) ⟨sl, n⟩) : Ok c B H σ ⟨sl, n⟩ := by
  have lw : ∀ us : List Nat, (wipe σ us).length = σ.length := fun us => by
    induction us with
    | nil => rfl
    | cons u us ih => show ((wipe σ us).set u none).length = _; rw [List.length_set, ih]
  have nv : ∀ {i : Nat} {s : Slo}, s ≠ .emp → sl[i]? = some s → i ∉ vs := fun {i s} hs q z => by
    rw [hv i z] at q; cases q; exact hs rfl
  have ow : ∀ a, ownA σ sl a → ownA (wipe σ vs) sl a := fun a ⟨i, w, h1, h2⟩ => ⟨i, w, h1, by rw [wipe_at (nv (s := .own w) (fun z => nomatch z) h1)]; exact h2⟩
  refine ⟨by rw [← lw vs]; exact o.len, o.good, fun a z => o.sub a (z.elim .inl fun z => .inr (ow a z)), o.al, fun i d h => ?_, fun i w h => ?_, fun i j w w' a h1 h2 h3 h4 => ?_⟩
  · have := o.val i d h
    rw [wipe_at (nv (s := .val d) (fun z => nomatch z) h)] at this
    exact this
  · have := o.own i w h
    rw [wipe_at (nv (s := .own w) (fun z => nomatch z) h)] at this
    exact this
  · exact o.sep i j w w' a h1 h2 (by rw [wipe_at (nv (s := .own w) (fun z => nomatch z) h1)]; exact h3) (by rw [wipe_at (nv (s := .own w') (fun z => nomatch z) h2)]; exact h4)
theorem DaL.eraseIdx {K : PySem.W.Frag} {S : Addr → Prop} : ∀ {vs : List V} {ds : List PyData} (i : Nat), DaL K S H vs ds → DaL K S H (vs.eraseIdx i) (ds.eraseIdx i)
  | _, _, _, .nil => .nil
  | _, _, 0, .cons h t => t
  | _, _, i + 1, .cons h t => .cons h (DaL.eraseIdx i t)
end
section
variable {c : Cy} {P : Po} {wi : TI} {g : TG} {tt : TT} {te : TE} {vs : List Nat}
/-- i = [i.pop(te) for .. in ..] -/
def tPopLc (K : PySem.W.Frag) (wi : TI) (g : TG) (tt : TT) (i : Nat) (te : TE) (vs : List Nat) : TS := tAsg (tLc wi g tt (tBM K "list" rPopAt (tVar i) (tCons te tNil)) vs) (gName i)
theorem ws_popLc {sl : List Slo} {nn i : Nat} {K : PySem.W.Frag} {ps : List PyData} (hK : K = c.K) (hv : ∀ v ∈ vs, sl[v]? = some Slo.emp) (hi : sl[i]? = some (.own (.lst ps)))
    (h : Wi c true wi ⟨sl, nn⟩ fun its n => its.length < 10000000 ∧ ∃ I : Nat → List PyData → List PyData → Nat → Prop, I 0 [] ps n ∧
      (∀ k acc os m d, its[k]? = some d → I k acc os m → Wg c g vs d ⟨sl.set i (.own (.lst os)), m⟩ fun e2 => Wt c tt e2 fun b m2 => b = true ∧ e2.sl[i]? = some (.own (.lst os)) ∧ Wp c te ⟨e2.sl, m2⟩ fun d' m3 => ∃ (j : Nat) (x : PyData), d' = .py (.int (j : Int)) ∧ j < 2 ^ 63 ∧ os[j]? = some x ∧ I (k + 1) (acc ++ [x]) (os.eraseIdx j) m3) ∧
      ∀ acc os m, I its.length acc os m → P.nx ⟨sl.set i (.own (.lst acc)), m⟩) : Ws c (tPopLc K wi g tt i te vs) ⟨sl, nn⟩ P := ⟨fun σ A H o Dn nx _ _ _ => by
  subst hK
  refine h.run σ A H o _ fun J H1 its n p e1 g1 gv D hD => ?_
  obtain ⟨il, I, i0, is, iz⟩ := p
  have o1 := o.keep e1 g1
  have lt : i < sl.length := (List.getElem?_eq_some_iff.mp hi).1
  have ni : i ∉ vs := fun z => by rw [hv i z] at hi; cases hi
  have hv' : ∀ os, ∀ v ∈ vs, (sl.set i (Slo.own (.lst os)))[v]? = some Slo.emp := fun os v z => by
    rw [List.getElem?_set_ne fun q => ni (by rw [q]; exact z)]; exact hv v z
  obtain ⟨l, hl, ⟨ys, hy, ty⟩, nSl⟩ := o1.own i _ hi
  have nSD : ¬ c.S0 D := fun z => o1.good.al D z hD
  have nA : ¬ A D := fun z => o1.al D z hD
  have lD : l ≠ D := fun z => by rw [z, hD] at hy; cases hy
  have nown : ∀ (j : Nat) (es : Ow), sl[j]? = some (Slo.own es) → σ[j]? = some (some (V.ref D)) → False := fun j es z1 z2 => by
    obtain ⟨b, h3, h4, _⟩ := o1.own j es z1
    rw [z2] at h3; cases h3
    exact h4.al hD
  have hA : ∀ a, A a → (fun a => A a ∨ a = D) a := fun a z => .inl z
  have oS : Ok c (fun a => A a ∨ a = D) (upd H1 D (.lst [])) (wipe σ vs) ⟨sl.set i (.own (.lst ps)), n⟩ := by
    have es : sl.set i (.own (.lst ps)) = sl := by
      refine List.ext_getElem? fun j => ?_
      by_cases q : i = j
      · subst q; rw [List.getElem?_set_self lt, hi]
      · rw [List.getElem?_set_ne q]
    rw [es]
    have ow := (o1.wipes (vs := vs) fun v z => (List.getElem?_eq_some_iff.mp (hv v z)).1)
    have ew : wipeE sl vs = sl := wipeE_emp hv
    have ow' : Ok c A H1 (wipe σ vs) ⟨sl, n⟩ := by have := ow; rw [show (En.mk sl n).sl = sl from rfl, ew] at this; exact this
    refine ⟨ow'.len, ow'.good.new hD, fun a z => .inl (ow'.sub a z), fun a z => ?_, fun i d z => ?_, fun i ds z => ?_, ow'.sep⟩
    · by_cases q : a = D
      · rw [q, upd_same]; exact fun w => nomatch w
      · rw [upd_ne q]; exact ow'.al a (z.elim id fun w => absurd w q)
    · obtain ⟨nm, v, h1, h2⟩ := ow'.val i d z
      exact ⟨nm, v, h1, (h2.apart hD).keep (Ek.new hD) fun a w => .inl (o.k a w)⟩
    · obtain ⟨b, h1, h3, h4⟩ := ow'.own i ds z
      exact ⟨b, h1, (h3.apart hD).keep (Ek.kept (Ek.new hD) fun a w => .inl (o.k a w)) fun u r => by rw [upd_ne (ne_of_none r hD)]; exact r, h4⟩
  have kpS : Kp c σ ⟨sl, nn⟩ H1 (upd H1 D (.lst [])) := fun a u _ q => by rw [upd_ne (ne_of_none q hD)]; exact q
  refine ⟨fun k m H' => m = its.length - k ∧ k ≤ its.length ∧ ∃ acc os xs nn', I k acc os nn' ∧ acc.length ≤ k ∧ H' D = some (.lst xs) ∧ DaL c.K (fun a => A a ∨ a = D) H' xs acc ∧ Ok c (fun a => A a ∨ a = D) H' (wipe σ vs) ⟨sl.set i (.own (.lst os)), nn'⟩ ∧ Kp c σ ⟨sl, nn⟩ H1 H',
    ⟨its.length, rfl, Nat.zero_le _, [], ps, [], n, i0, Nat.le_refl _, upd_same, .nil, oS, kpS⟩, ?_⟩
  rintro k m H' ⟨rfl, hk, acc, os, xs, n', hI, hac, hDx, t, o', kp⟩
  have hM : Kept (Mm c true σ ⟨sl, nn⟩) H1 H' := kp.mono fun a z => z.elim .inl fun q => .inr ⟨rfl, q⟩
  by_cases hlt : k < its.length
  · right
    refine ⟨gv.go H' k hM hlt, fun H2 => k + 1 ≤ its.length ∧ ∃ acc os xs nn', I (k + 1) acc os nn' ∧ acc.length ≤ k + 1 ∧ H2 D = some (.lst xs) ∧ DaL c.K (fun a => A a ∨ a = D) H2 xs acc ∧ Ok c (fun a => A a ∨ a = D) H2 (wipe σ vs) ⟨sl.set i (.own (.lst os)), nn'⟩ ∧ Kp c σ ⟨sl, nn⟩ H1 H2,
      fun H2 ⟨q1, q2⟩ => ⟨its.length - (k + 1), by omega, rfl, q1, q2⟩, fun x H'' y => ?_⟩
    obtain ⟨d, hd, st, dx⟩ := gv.yld H' k x H'' hM hlt y
    have ks : Ek c H' H'' := st.kept
    have gs : Good c n' H'' := st.good o'.good
    have o2 := o'.keep ks gs
    have dd := dx (fun a => A a ∨ a = D) (fun a z => z.elim .inl fun q => .inr (by rw [q]; exact hD)) o'.al fun a z => .inl (o.sub a (.inl z))
    refine (is k acc os n' d hd hI).run _ _ H'' x o2 dd _ fun σ2 e2 wt o3 ap wo => ?_
    refine ⟨wipe_apt ap, wt.run σ2 _ H'' o3 _ fun b H3 m2 p2 e3 g3 => ?_⟩
    obtain ⟨rfl, h2i, p3⟩ := p2
    refine iteT ?_
    have o4 := o3.keep e3 g3
    obtain ⟨l', hl', ow', nS'⟩ := o4.own i _ h2i
    have el : l' = l := by
      have z1 : σ2[i]? = (wipe σ vs)[i]? := ap.2 i ni
      rw [z1, wipe_at ni, hl] at hl'
      cases hl'
      rfl
    subst el
    refine ⟨.ref l', hl', .inl ⟨rfl, ow'.choose, SqL.of ow'.choose_spec.1⟩, p3.run σ2 _ H3 o4 _ fun v H4 d' m3 p4 e4 g4 xv => ?_⟩
    obtain ⟨j, px, rfl, hj63, hj, hI'⟩ := p4
    cases Da.int_eq xv
    have nD : c.k ≠ some D := fun z => o1.al D (o.k D z) hD
    have eAll : Ek c H' H4 := (ks.trans e3).trans e4
    have d4 : H4 D = some (.lst xs) := eAll D _ nD hDx
    have o5 : Ok c (fun a => A a ∨ a = D) H4 (wipe σ vs) ⟨sl.set i (.own (.lst os)), m3⟩ := o'.keep eAll g4
    have hi5 : (sl.set i (Slo.own (.lst os)))[i]? = some (Slo.own (.lst os)) := by rw [List.getElem?_set_self lt]
    obtain ⟨l2, q1, ⟨zs, q2, q3⟩, q4⟩ := o5.own i _ hi5
    rw [wipe_at ni, hl] at q1
    cases q1
    obtain ⟨pv, hpv, dpv⟩ := q3.get hj
    have hjl : j < zs.length := (List.getElem?_eq_some_iff.mp hpv).1
    refine ⟨l', zs, (j : Int), j, pv, rfl, rfl, q2, by omega, by omega, ?_, hpv, ?_⟩
    · unfold seqIndex?
      simp only [show ¬ ((j : Int) < 0) by omega, if_false]
      simp [hjl]
    have tA : DaL c.K (fun a => A a ∨ a = D) H4 xs acc := t.keep (Ek.kept eAll o'.k)
    have lB : (fun a => A a ∨ a = D) l' := .inl (o1.sub l' (.inr ⟨i, _, hi, hl⟩))
    have kl : Kept (fun a => A a ∨ a = D) H4 (upd H4 l' (.lst (zs.eraseIdx j))) := fun b u nb q => by rw [upd_ne fun z => nb (by rw [z]; exact lB)]; exact q
    obtain ⟨o6, _, bk⟩ := o5.put (w' := .lst (os.eraseIdx j)) (u := .lst (zs.eraseIdx j)) hi5 (by rw [wipe_at ni]; exact hl) q4 g4 ⟨_, upd_same, (q3.eraseIdx j).keep kl⟩
    have o6' : Ok c (fun a => A a ∨ a = D) (upd H4 l' (.lst (zs.eraseIdx j))) (wipe σ vs) ⟨sl.set i (.own (.lst (os.eraseIdx j))), m3⟩ := by
      have := o6
      rw [show (En.mk (sl.set i (Slo.own (.lst os))) m3).sl = sl.set i (Slo.own (.lst os)) from rfl, List.set_set] at this
      exact this
    have dl : (upd H4 l' (.lst (zs.eraseIdx j))) D = some (.lst xs) := by rw [upd_ne (Ne.symm lD)]; exact d4
    have kD : Kept (fun a => A a ∨ a = D) (upd H4 l' (.lst (zs.eraseIdx j))) (upd (upd H4 l' (.lst (zs.eraseIdx j))) D (.lst (xs ++ [pv]))) := fun b u nb q => by rw [upd_ne fun z => nb (.inr z)]; exact q
    have nown2 : ∀ (j' : Nat) (es : Ow), (sl.set i (Slo.own (.lst (os.eraseIdx j))))[j']? = some (Slo.own es) → (wipe σ vs)[j']? = some (some (V.ref D)) → False := fun j' es z1 z2 => by
      by_cases q : i = j'
      · subst q
        rw [wipe_at ni, hl] at z2
        cases z2
        exact lD rfl
      · rw [List.getElem?_set_ne q] at z1
        have nj : j' ∉ vs := fun z => by rw [hv j' z] at z1; cases z1
        rw [wipe_at nj] at z2
        exact nown j' es z1 z2
    refine ⟨xs, dl, by rw [t.len]; exact Nat.lt_of_le_of_lt hac (Nat.lt_of_lt_of_le (Nat.lt_trans hlt il) (by decide)), hlt, acc ++ [px], os.eraseIdx j, xs ++ [pv], m3, hI', by rw [List.length_append]; show acc.length + 1 ≤ k + 1; omega, upd_same, ((tA.keep kl).append (.cons (dpv.keep kl) .nil)).keep kD, o6'.updD (.inr rfl) nSD nown2, ?_⟩
    refine fun a u nb q => ?_
    have na : ¬ (c.k = some a) := fun z => nb (.inl z)
    rw [upd_ne (ne_of_none q hD), upd_ne fun z => nb (.inr ⟨i, _, hi, by rw [z]; exact hl⟩)]
    exact eAll a u na (kp a u nb q)
  · left
    have q : k = its.length := by omega
    subst q
    refine ⟨gv.stop H' _ hM (Nat.le_refl _), ?_⟩
    have ou := Ok.unwipe (hv' os) o'
    have hnt : ∀ (j : Nat) (es : Ow), (sl.set i (Slo.own (.lst os)))[j]? = some (Slo.own es) → σ[j]? = some (some (V.ref D)) → j = i := fun j es z1 z2 => by
      by_cases q : i = j
      · exact q.symm
      · rw [List.getElem?_set_ne q] at z1
        exact (nown j es z1 z2).elim
    have of := ou.take (i := i) (w := .lst acc) (.inr rfl) nSD hnt ⟨xs, hDx, t⟩ (by show i < (sl.set i _).length; rw [List.length_set]; exact lt)
    have of' : Ok c (fun a => A a ∨ a = D) H' (σ.set i (some (.ref D))) ⟨sl.set i (.own (.lst acc)), n'⟩ := by
      have := of
      rw [show (En.mk (sl.set i (Slo.own (.lst os))) n').sl = sl.set i (Slo.own (.lst os)) from rfl, List.set_set] at this
      exact this
    have hD0 : H D = none := fresh_of e1 g1 hD
    refine nx _ _ H' _ (iz acc os n' hI) ((Kp.ek e1).trans (fun a z => .inl z) kp) (fun a z => ?_) of'
    obtain ⟨j, es, z1, z2⟩ := z
    by_cases q : i = j
    · subst q
      rw [List.getElem?_set_self (by rw [o.len]; exact lt)] at z2
      cases z2
      exact .inr hD0
    · rw [List.getElem?_set_ne q] at z2
      have z1' : sl[j]? = some (Slo.own es) := by rw [← List.getElem?_set_ne q]; exact z1
      exact .inl ⟨j, es, z1', z2⟩⟩
end
end Wx

/-! ### part Wk3 -/
set_option Elab.async false
set_option linter.all false
set_option maxRecDepth 100000
set_option maxHeartbeats 1000000
set_option autoImplicit false
/-! Lists of instances, told by data. -/
namespace Wx
open PySem L2
mutual
def tupO : PyData → Bool
  | .tuple ds => tupOs ds
  | .none => true
  | .bool _ => true
  | .int _ => true
  | .str _ => true
  | _ => false
def tupOs : List PyData → Bool
  | [] => true
  | d :: ds => tupO d && tupOs ds
end
section
variable {K : PySem.W.Frag} {S : Addr → Prop} {H : Hp}
mutual
theorem Da.fun_ (u : ∀ p xs ys, SqT K H p xs → SqT K H p ys → xs = ys) : ∀ {v : V} {d e : PyData}, tupO d = true → tupO e = true → Da K S H v d → Da K S H v e → d = e
  | _, _, _, _, _, .non, h => by cases h; rfl
  | _, _, _, _, _, .bl b, h => by cases h; rfl
  | _, _, _, _, _, .int i, h => by cases h; rfl
  | _, _, _, _, _, .str x, h => by cases h; rfl
  | _, _, _, p, _, .lst n r t, h => by simp [tupO] at p
  | _, _, _, p, _, .lstK r t, h => by simp [tupO] at p
  | _, _, _, p, q, .tup n r t, h => by
    cases h with
    | lst => simp [tupO] at q
    | lstK => simp [tupO] at q
    | tup n' r' t' =>
      have e := u _ _ _ (.inl r) (.inl r')
      subst e
      exact congrArg PyData.tuple (DaL.fun_ u (by simpa [tupO] using p) (by simpa [tupO] using q) t t')
    | tupK r' t' =>
      have e := u _ _ _ (.inl r) (r' H)
      subst e
      exact congrArg PyData.tuple (DaL.fun_ u (by simpa [tupO] using p) (by simpa [tupO] using q) t t')
  | _, _, _, p, q, .tupK r t, h => by
    cases h with
    | lst => simp [tupO] at q
    | lstK => simp [tupO] at q
    | tup n' r' t' =>
      have e := u _ _ _ (r H) (.inl r')
      subst e
      exact congrArg PyData.tuple (DaL.fun_ u (by simpa [tupO] using p) (by simpa [tupO] using q) t t')
    | tupK r' t' =>
      have e := u _ _ _ (r H) (r' H)
      subst e
      exact congrArg PyData.tuple (DaL.fun_ u (by simpa [tupO] using p) (by simpa [tupO] using q) t t')
theorem DaL.fun_ (u : ∀ p xs ys, SqT K H p xs → SqT K H p ys → xs = ys) : ∀ {vs : List V} {ds es : List PyData}, tupOs ds = true → tupOs es = true → DaL K S H vs ds → DaL K S H vs es → ds = es
  | _, _, _, _, _, .nil, h => by cases h; rfl
  | _, _, _, p, q, .cons x t, h => by
    cases h with
    | cons y t' =>
      simp only [tupOs, Bool.and_eq_true] at p q
      rw [Da.fun_ u p.1 q.1 x y, DaL.fun_ u p.2 q.2 t t']
end
theorem FsR.fun_ (u : ∀ p xs ys, SqT K H p xs → SqT K H p ys → xs = ys) : ∀ {vs : List (Str × V)} {fs gs : List (Str × PyData)}, (∀ p ∈ fs, tupO p.2 = true) → (∀ p ∈ gs, tupO p.2 = true) → FsR K S H vs fs → FsR K S H vs gs → fs = gs
  | [], [], [], _, _, _, _ => rfl
  | (x, v) :: r, (y, d) :: s, (z, e) :: t, p, q, ⟨e1, h1, t1⟩, ⟨e2, h2, t2⟩ => by
    subst e1 e2
    have y1 := Da.fun_ u (p _ List.mem_cons_self) (q _ List.mem_cons_self) h1 h2
    have y2 := FsR.fun_ u (fun a b => p a (List.mem_cons_of_mem _ b)) (fun a b => q a (List.mem_cons_of_mem _ b)) t1 t2
    dsimp only at y1
    rw [y1, y2]
theorem InsL.get {C : Addr} : ∀ {vs : List V} {gs : List (List (Str × PyData))} {i : Nat}, InsL K S H C vs gs → i < gs.length → ∃ g b dx ws, gs[i]? = some g ∧ vs[i]? = some (.ref b) ∧ ¬ S b ∧ H b = some (.ins C dx ws) ∧ FsR K S H ws g
  | [], [], i, _, h => by simp at h
  | v :: r, g :: s, 0, ⟨⟨b, dx, ws, e, n, q, f⟩, t⟩, h => ⟨g, b, dx, ws, by simp, by simp [e], n, q, f⟩
  | v :: r, g :: s, i + 1, ⟨_, t⟩, h => by
    obtain ⟨g', b, dx, ws, h1, h2, h3⟩ := InsL.get (i := i) t (by simpa using h)
    exact ⟨g', b, dx, ws, by simpa using h1, by simpa using h2, h3⟩
  | [], _ :: _, _, h, _ => h.elim
  | _ :: _, [], _, h, _ => h.elim
theorem InsL.snoc {C : Addr} {v : V} {g : List (Str × PyData)} (x : ∃ b dx vs, v = .ref b ∧ ¬ S b ∧ H b = some (.ins C dx vs) ∧ FsR K S H vs g) : ∀ {vs : List V} {gs : List (List (Str × PyData))}, InsL K S H C vs gs → InsL K S H C (vs ++ [v]) (gs ++ [g])
  | [], [], _ => ⟨x, True.intro⟩
  | v :: r, g :: s, ⟨h, t⟩ => ⟨h, InsL.snoc x t⟩
  | [], _ :: _, h => h.elim
  | _ :: _, [], h => h.elim
end
section
variable {c : Cy} {K : PySem.W.Frag} {n nn : Nat} {Φ : D → Nat → Prop} {C : Addr} {fs : List (Str × PyData)} {gs : List (List (Str × PyData))} {sl : List Slo} {te ty : TE} {P : Po} {Ψ : Ow → Nat → Prop}
theorem any_take {α : Type} {b : α → Bool} {l : List α} {i : Nat} {g : α} (h : l[i]? = some g) (ha : (l.take i).any b = false) : (l.take (i + 1)).any b = b g := by
  rw [List.take_add_one, h, List.any_append, ha]
  simp
theorem rw_inO {ι : Type} {ar : ι → List D} {pre : ι → Nat → Prop} {post : ι → Nat → D → Nat → Prop} {b : List (Str × PyData) → Bool} (hK : K = c.K) (hf : ∀ p ∈ fs, tupO p.2 = true) (hg : ∀ g ∈ gs, ∀ p ∈ g, tupO p.2 = true) (hb : b fs = true)
    (hq : ∀ g ∈ gs, ∃ z, [D.ins C g, .ins C fs] = ar z ∧ pre z n ∧ ∀ d m, post z n d m → d = .py (.bool (b g)) ∧ m = n) (h : Φ (.py (.bool (gs.any b))) n) : Rw c (rINO K C (SpX K ar pre post)) (.ins C fs) (.mine (.lsi C gs)) n Φ := ⟨fun A H v1 v2 a x1 x2 Q k => by
  subst hK
  have x1' := x1
  obtain ⟨ax, dx, ws, rfl, nA, ra, fa⟩ := x1'
  obtain ⟨l, rfl, nS, lA, xs, hl, hx⟩ := x2
  have nk : c.k ≠ some l := fun z => nS (c.hk l z)
  have nka : c.k ≠ some ax := fun z => nA (a.k ax z)
  refine ⟨l, ax, xs, dx, ws, rfl, ra, rfl, hl, fun i H' => Ek c H H' ∧ Good c n H' ∧ (gs.take i).any b = false, ⟨Ek.refl, a.good, rfl⟩, fun i H' hi w => ?_, fun H' w => ?_⟩
  · obtain ⟨e, g, hn⟩ := w
    have kA : Kept A H H' := e.kept a.k
    have hx' := hx.keep kA
    rw [hx.len] at hi
    obtain ⟨g', bx, dy, us, q1, q2, q3, q4, q5⟩ := hx'.get hi
    have mg : g' ∈ gs := List.mem_of_getElem? q1
    have hl' : H' l = some (.lst xs) := e l _ nk hl
    have ra' : H' ax = some (.ins C dx ws) := e ax _ nka ra
    have at' : At c A n H' := ⟨g, fun z hz => by
      by_cases w : c.k = some z
      · obtain ⟨_, _, _, q, _⟩ := g.kl z w
        rw [q]; exact fun z => nomatch z
      · cases q : H z with
        | none => exact absurd q (a.al z hz)
        | some u => rw [e z u w q]; exact (fun z => nomatch z), a.s⟩
    refine ⟨hl', bx, dy, us, q2, q4, ⟨ws, ra'⟩, fun z u => ?_, fun z => ?_⟩
    · subst z
      rw [q4] at ra'
      cases ra'
      have ee := FsR.fun_ u (hg g' mg) hf q5 (fa.keep kA)
      have : gs.any b = true := List.any_eq_true.mpr ⟨g', mg, by rw [ee]; exact hb⟩
      rw [this] at h
      exact k _ H' _ n h e g (.bl true)
    · obtain ⟨z, p2, p3, p4⟩ := hq g' mg
      refine sx_at (ds := [.ins C g', .ins C fs]) (Φ := fun d m => d = .py (.bool (b g')) ∧ m = n) rfl at' ⟨⟨bx, dy, us, rfl, q3, q4, q5⟩, x1.keep e a.k, True.intro⟩ rfl z p2 p3 (fun d m q => ?_) fun v H2 d m q e2 g2 y => ?_
      · obtain ⟨rfl, rfl⟩ := p4 d m q
        exact ⟨rfl, rfl, rfl⟩
      · obtain ⟨rfl, rfl⟩ := q
        refine ⟨b g', Da.bl_eq y, ?_⟩
        cases hbg : b g' with
        | true =>
          have : gs.any b = true := List.any_eq_true.mpr ⟨g', mg, hbg⟩
          rw [this] at h
          exact (if_pos rfl).mpr (k _ H2 _ m h (e.trans e2) g2 (.bl true))
        | false => exact ⟨e.trans e2, g2, by rw [any_take q1 hn]; exact hbg⟩
  · obtain ⟨e, g, hn⟩ := w
    rw [hx.len, List.take_length] at hn
    rw [hn] at h
    exact ⟨e l _ nk hl, k _ H' _ n h e g (.bl false)⟩⟩
/-- an item -/
theorem rw_ixI {j : Nat} {g : List (Str × PyData)} (hK : K = c.K) (hg : gs[j]? = some g) (h : Φ (.ins C g) n) : Rw c (rIx K) (.mine (.lsi C gs)) (.py (.int (j : Int))) n Φ := ⟨fun A H v1 v2 a x1 x2 Q k => by
  subst hK
  cases Da.int_eq x2
  obtain ⟨l, rfl, nS, lA, xs, hl, hx⟩ := x1
  obtain ⟨g', bx, dy, us, q1, q2, q3, q4, q5⟩ := hx.get (List.getElem?_eq_some_iff.mp hg).1
  rw [hg] at q1
  cases q1
  exact .inl ⟨l, xs, (j : Int), .ref bx, rfl, rfl, SqL.of hl, atI_nat q2, k _ H _ n h Ek.refl a.good ⟨bx, dy, us, rfl, q3, q4, q5⟩⟩⟩
theorem rw_ixI2 {j : Nat} (hK : K = c.K) (h : ∃ g, gs[j]? = some g ∧ Φ (.ins C g) n) : Rw c (rIx K) (.mine (.lsi C gs)) (.py (.int (j : Int))) n Φ := by
  obtain ⟨g, h1, h2⟩ := h
  exact rw_ixI hK h1 h2
theorem cw_lenI (hK : K = c.K) (h : Φ (.py (.int gs.length)) n) : Cw c (rLEN K) [.mine (.lsi C gs)] n Φ := ⟨fun A H vs a x Q k => by
  subst hK
  obtain ⟨v, rfl, xv⟩ : ∃ v, vs = [v] ∧ DX c A H v (.mine (.lsi C gs)) := by
    match vs, x with
    | [v], ⟨xv, _⟩ => exact ⟨v, rfl, xv⟩
  obtain ⟨l, rfl, nS, lA, xs, hl, hx⟩ := xv
  exact ⟨_, gs.length, rfl, .inl ⟨xs, SqL.of hl, hx.len.symm⟩, k _ H _ n h Ek.refl a.good (.int _)⟩⟩
theorem wn_nilI (h : Ψ (.lsi C []) nn) : Wn c (tLst tNil) ⟨sl, nn⟩ Ψ := ⟨fun σ A H o Q k => ⟨by show 0 ≤ sizeLine; exact Nat.zero_le _, fun r hr => k r _ _ nn h (Ek.new hr) (o.good.new hr) hr ⟨[], upd_same, True.intro⟩⟩⟩
theorem ws_appI {i : Nat} (hK : K = c.K) (hi : sl[i]? = some (.own (.lsi C gs))) (h : Wp c te ⟨sl, nn⟩ fun d n => ∃ g, d = .ins C g ∧ gs.length < sizeLine ∧ P.nx ⟨sl.set i (.own (.lsi C (gs ++ [g]))), n⟩) :
    Ws c (tDrop (tBM K "list" rAppend (tVar i) (tCons te tNil))) ⟨sl, nn⟩ P := ⟨fun σ A H o Dn nx _ _ _ => by
  subst hK
  obtain ⟨a, h1, ⟨xs, h2, h3⟩, h4⟩ := o.own i _ hi
  refine ⟨.ref a, h1, .inl ⟨rfl, xs, SqL.of h2⟩, h.run σ A H o _ fun v H1 d n p e1 g1 x => ?_⟩
  obtain ⟨g, rfl, hz, q⟩ := p
  have o1 := o.keep e1 g1
  have nk : c.k ≠ some a := fun z => h4 (c.hk a z)
  have ha : H1 a = some (.lst xs) := e1 a _ nk h2
  have aA : A a := o.sub a (.inr ⟨i, _, hi, h1⟩)
  have k2 : Kept A H1 (upd H1 a (.lst (xs ++ [v]))) := fun b u nb q => by rw [upd_ne fun z => nb (by rw [z]; exact aA)]; exact q
  obtain ⟨bx, dx, ws, rfl, nb, hb, hf⟩ := x
  obtain ⟨o2, kp, bk⟩ := o1.put (w' := .lsi C (gs ++ [g])) (u := .lst (xs ++ [.ref bx])) hi h1 h4 g1 ⟨_, upd_same, (InsL.snoc ⟨bx, dx, ws, rfl, nb, hb, hf⟩ (h3.keep (Ek.kept e1 o.k))).keep k2⟩
  exact ⟨a, xs, .ref bx, rfl, rfl, ha, by rw [h3.len]; exact hz, nx σ A _ ⟨sl.set i (.own (.lsi C (gs ++ [g]))), n⟩ q (fun b u nb w => kp b u nb (e1 b u (fun z => nb (.inl z)) w)) (fun b z => .inl (bk b z)) o2⟩⟩
/-- o in l, by the class's bundle -/
theorem inS {X : Cx} {k : Nat} {sp : Sp} (hK : X.K = K) (F : StdM X.prog X.w X.K X.mg X.base k C "__eq__" sp) (hr : Room (k + 1) X.A) : OpR X (compareOp .In) (rINO K C sp) := by
  subst hK
  obtain ⟨g, fd, ps, h1, h2, h3⟩ := F.ex
  exact opINO h2 h1.at_ h1.fn h3 hr
end
end Wx

/-! ### part Wk4 -/
set_option Elab.async false
set_option linter.all false
set_option maxRecDepth 100000
set_option maxHeartbeats 1000000
set_option autoImplicit false
/-! zip of two lists; the popping comprehension's derivation. -/
namespace Wx
open PySem L2
section
variable {c : Cy} {m : Bool} {K : PySem.W.Frag} {A M : Addr → Prop} {H : Hp} {v : V} {Θ : List D → Nat → Prop} {ta : TA}
theorem Da.list_st {ds : List PyData} (hM : ∀ a, M a → A a) (x : Da K A H v (.list ds)) : ∃ a xs, v = .ref a ∧ (∀ H', Kept M H H' → SqL K H' a xs) ∧ DaL K A H xs ds := by
  cases x with
  | lst na r t => exact ⟨_, _, rfl, fun H' kk => .inl ((kk.mono hM).rd na r), t⟩
  | lstK r t => exact ⟨_, _, rfl, fun H' _ => r H', t⟩
def zipD (xs ys : List PyData) : List D := List.zipWith (fun x y => D.py (.tuple [x, y])) xs ys
theorem zipD_len {xs ys : List PyData} (h : xs.length = ys.length) : (zipD xs ys).length = xs.length := by unfold zipD; rw [List.length_zipWith, h, Nat.min_self]
theorem wi_zip {sl : List Slo} {nn : Nat} (hK : K = c.K) (h : Wa c ta ⟨sl, nn⟩ fun ds n => Two ds fun d u => ∃ xs ys, d = .py (.list xs) ∧ u = .py (.list ys) ∧ xs.length = ys.length ∧ Θ (zipD xs ys) n) : Wi c m (iZip K ta) ⟨sl, nn⟩ Θ := ⟨fun σ A H o R k => by
  subst hK
  refine h.run σ A H o _ fun vs H1 ds n p e1 g1 x => ?_
  obtain ⟨v, w, d, u, rfl, x1, x2, xs, ys, rfl, rfl, hl, q⟩ := two_of p x
  obtain ⟨a, us, rfl, s1, t1⟩ := Da.list_st (M := Mm c m σ ⟨sl, nn⟩) (fun a z => Mm.sub o a z) x1
  obtain ⟨b, ws, rfl, s2, t2⟩ := Da.list_st (M := Mm c m σ ⟨sl, nn⟩) (fun a z => Mm.sub o a z) x2
  have lu := t1.len
  have lw := t2.len
  refine ⟨a, b, us, ws, rfl, s1 H1 Kept.refl, s2 H1 Kept.refl, k _ H1 _ n q e1 g1 ⟨fun H' i kk hi => ?_, fun H' i kk hi => ?_, fun H' i z H'' kk hi y => ?_⟩⟩
  · rw [zipD_len hl] at hi
    exact ⟨us, ws, us[i]'(by omega), ws[i]'(by omega), s1 H' kk, s2 H' kk, List.getElem?_eq_getElem _, List.getElem?_eq_getElem _⟩
  · rw [zipD_len hl] at hi
    exact ⟨us, ws, s1 H' kk, s2 H' kk, .inl (by omega)⟩
  · rw [zipD_len hl] at hi
    obtain ⟨T, x', y', rfl, hT, rfl, z1, z2⟩ := y
    obtain ⟨p1, h1, d1⟩ := t1.got (z1 us (s1 H' kk))
    obtain ⟨p2, h2, d2⟩ := t2.got (z2 ws (s2 H' kk))
    refine ⟨.py (.tuple [p1, p2]), ?_, .inr ⟨T, _, hT, rfl⟩, fun B w w2 _ => ?_⟩
    · unfold zipD
      rw [List.getElem?_zipWith, h1, h2]
    · have kT : Kept B H' (upd H' T (.tup [x', y'])) := fun b u nb q => by rw [upd_ne (ne_of_none q hT)]; exact q
      have e1 : Da c.K B H' x' p1 := Da.to (kk.mono fun a z => Mm.sub o a z) w d1
      have e2 : Da c.K B H' y' p2 := Da.to (kk.mono fun a z => Mm.sub o a z) w d2
      exact .tup (fun z => w2 T z hT) (.inl upd_same) (.cons (e1.keep kT) (.cons (e2.keep kT) .nil))⟩
end
section
variable {X : Cx} {K : PySem.W.Frag} {e e2 : Expr} {ta : TA} {p pos tpos : Pos} {elts : List Expr} {kk : Nat}
theorem zipK (hK : X.K = K) (hg : Gl X "zip") (hm : X.mg "zip" = none) (ha : PA X [e, e2] ta)
    (hs : starEach [e, e2] X.env = (false, eval e X.env) :: starEach [e2] X.env := by rfl) (hpl : (backTo pos (starEach [e2] X.env)).any (·.1) = false := by rfl) :
    PI X (.Tuple elts kk tpos) (.Call (.Name "zip" p) [e, e2] [] pos) (iZip K ta) := hK ▸ pi_zip hg hm ha hs hpl
theorem ps_pop {st : Stmt} {wi : TI} {g : TG} {tt : TT} {i : Nat} {te : TE} {vs : List Nat} (hK : X.K = K) (h : PS X st (tAsg (tLc wi g tt (tBM X.K "list" rPopAt (tVar i) (tCons te tNil)) vs) (gName i))) : PS X st (tPopLc K wi g tt i te vs) := hK ▸ h
end
section
variable {c : Cy} {K : PySem.W.Frag} {te te2 : TE} {P : Po}
/-- i, j = a new object, a value, over a pair that is laid -/
def tTup2O (K : PySem.W.Frag) (i j : Nat) (ta tb : TE) : TS := tAsg (tTup (tCons ta (tCons tb tNil))) (gTup K 2 (gCons (gName i) (gCons (gName j) gNil)))
theorem ws_tup2N {sl : List Slo} {nn : Nat} {i j : Nat} (hK : K = c.K) (h : Wn c te ⟨sl, nn⟩ fun w n => Wp c te2 ⟨sl, n⟩ fun d m => d.nm = true ∧ P.nx ⟨(sl.set i (.own w)).set j (.val d), m⟩) (hi : i < sl.length) (hj : j < sl.length) (hij : i ≠ j) :
    Ws c (tTup2O K i j te te2) ⟨sl, nn⟩ P := ⟨fun σ A H o Dn nx _ _ _ => by
  subst hK
  refine h.run σ A H o _ fun p H1 w n q e1 g1 hp t => ?_
  have o1 : Ok c (fun a => A a ∨ a = p) H1 σ ⟨sl, n⟩ := by
    have o' := o.set_own e1 g1 hp t hi
    exact ⟨o.len, g1, fun a z => .inl (o.sub a z), o'.al, fun j u h => by
      obtain ⟨nm, w, h3, h4⟩ := o.val j u h
      exact ⟨nm, w, h3, (h4.apart hp).keep e1 fun a z => .inl (o.k a z)⟩, fun j es h => by
      obtain ⟨b, h3, h5, h6⟩ := o.own j es h
      exact ⟨b, h3, (h5.apart hp).keep (Ek.kept e1 fun a z => .inl (o.k a z)) fun u r => e1 b u (fun z => h6 (c.hk b z)) r, h6⟩, o.sep⟩
  refine q.run σ _ H1 o1 _ fun v H2 d m q e2 g2 x => ?_
  obtain ⟨nm, q⟩ := q
  refine ⟨by show 2 ≤ sizeLine; decide, fun r hr => ?_⟩
  have e3 : Ek c H2 (upd H2 r (.tup [.ref p, v])) := Ek.new hr
  have g3 : Good c m (upd H2 r (.tup [.ref p, v])) := g2.new hr
  have e23 := e2.trans e3
  have o2 := o.set_own (i := i) (e1.trans e23) g3 hp (t.keep (Ek.kept e23 fun a z => .inl (o.k a z)) fun u r => e23 p u (fun z => o.good.al p (c.hk p z) hp) r) hi
  have o3 := o2.set_ (i := j) (v := v) (by show j < (sl.set i _).length; rw [List.length_set]; exact hj) nm (x.keep e3 fun a z => .inl (o.k a z))
  refine ⟨r, [.ref p, v], rfl, .inl (.inl upd_same), rfl, .ref p, [v], rfl, ⟨v, [], rfl, ⟨rfl, nx _ _ _ _ q (Kp.ek (e1.trans e23)) (fun a z => ?_) o3⟩⟩⟩
  obtain ⟨l, es, h3, h4⟩ := own_set (e := ⟨sl.set i (.own w), m⟩) z
  by_cases r : i = l
  · subst r
    rw [List.getElem?_set_self (by rw [o.len]; exact hi)] at h4
    cases h4
    exact .inr hp
  · rw [List.getElem?_set_ne r] at h4
    have h3' : sl[l]? = some (Slo.own es) := by rw [← List.getElem?_set_ne r]; exact h3
    exact .inl ⟨l, es, h3', h4⟩⟩
/-- i, j = a value, a new object, over a pair that is laid -/
def tTup2P (K : PySem.W.Frag) (i j : Nat) (ta tb : TE) : TS := tAsg (tTup (tCons ta (tCons tb tNil))) (gTup K 2 (gCons (gName i) (gCons (gName j) gNil)))
theorem ws_tup2P {sl : List Slo} {nn : Nat} {i j : Nat} (hK : K = c.K) (h : Wp c te ⟨sl, nn⟩ fun d m => d.nm = true ∧ Wn c te2 ⟨sl, m⟩ fun w n => P.nx ⟨(sl.set i (.val d)).set j (.own w), n⟩) (hi : i < sl.length) (hj : j < sl.length) (hij : i ≠ j) :
    Ws c (tTup2P K i j te te2) ⟨sl, nn⟩ P := ⟨fun σ A H o Dn nx _ _ _ => by
  subst hK
  refine h.run σ A H o _ fun v H1 d m p e1 g1 x => ?_
  obtain ⟨nm, p⟩ := p
  have o1 := o.keep e1 g1
  refine p.run σ A H1 o1 _ fun r H2 w n q e2 g2 hr t => ?_
  refine ⟨by show 2 ≤ sizeLine; decide, fun y hy => ?_⟩
  have e3 : Ek c H2 (upd H2 y (.tup [v, .ref r])) := Ek.new hy
  have g3 : Good c n (upd H2 y (.tup [v, .ref r])) := g2.new hy
  have t3 : OwAt c.K (fun a => A a ∨ a = r) (upd H2 y (.tup [v, .ref r])) r w := t.keep (Ek.kept e3 fun a z => .inl (o.k a z)) fun u z => e3 r u (fun q => o1.good.al r (c.hk r q) hr) z
  have o2 := o1.set_ (i := i) hi nm x
  have o3 := o2.set_own (i := j) (e2.trans e3) g3 hr t3 (by show j < (sl.set i _).length; rw [List.length_set]; exact hj)
  refine ⟨y, [v, .ref r], rfl, .inl (.inl upd_same), rfl, v, [.ref r], rfl, ⟨.ref r, [], rfl, ⟨rfl, nx _ _ _ ⟨(sl.set i (.val d)).set j (.own w), n⟩ q (Kp.ek ((e1.trans e2).trans e3)) (fun a z => ?_) o3⟩⟩⟩
  obtain ⟨k, es, h3, h4⟩ := z
  by_cases rj : j = k
  · subst rj
    rw [List.getElem?_set_self (by rw [List.length_set, o.len]; exact hj)] at h4
    cases h4
    exact .inr (fresh_of e1 g1 hr)
  · rw [List.getElem?_set_ne rj] at h4
    have h3' : (sl.set i (.val d))[k]? = some (Slo.own es) := by rw [← List.getElem?_set_ne rj]; exact h3
    exact .inl (own_set (e := ⟨sl, nn⟩) ⟨k, es, h3', h4⟩)⟩
theorem ps_tup2P {X : Cx} {st : Stmt} {i j : Nat} {ta tb : TE} (h : PS X st (tAsg (tTup (tCons ta (tCons tb tNil))) (gTup K 2 (gCons (gName i) (gCons (gName j) gNil))))) : PS X st (tTup2P K i j ta tb) := h
/-- a part of a list: a new list -/
theorem wn_sl {sl : List Slo} {nn : Nat} {Ψ : Ow → Nat → Prop} {tl th : TO} (hK : K = c.K) (h : Wp c te ⟨sl, nn⟩ fun d n => Wo c tl ⟨sl, n⟩ fun lo n1 => Wo c th ⟨sl, n1⟩ fun hi n2 => ∃ ds, d = .py (.list ds) ∧ Ψ (.lst (cutD ds lo hi)) n2) : Wn c (tSl (rSL K) te tl th) ⟨sl, nn⟩ Ψ := ⟨fun σ A H o Q k => by
  subst hK
  refine h.run σ A H o _ fun v H1 d n p e1 g1 x => ?_
  have o1 := o.keep e1 g1
  refine p.run σ A H1 o1 _ fun lo H2 n1 p e2 g2 => ?_
  have o2 := o1.keep e2 g2
  refine p.run σ A H2 o2 _ fun hi H3 n2 p e3 g3 => ?_
  obtain ⟨ds, rfl, q⟩ := p
  have x := (x.keep e2 o.k).keep e3 o.k
  have es : Ek c H H3 := (e1.trans e2).trans e3
  obtain ⟨b, xs, rfl, hs, t⟩ := Da.list_at x
  exact .inr (.inl ⟨b, xs, rfl, hs, fun r hr => k r _ _ n2 q (es.trans (Ek.new hr)) (g3.new hr) (fresh_of es g3 hr) ⟨_, upd_same, lay (t.cut lo hi) hr⟩⟩)⟩
theorem wp_catS {sl : List Slo} {nn : Nat} {Φ : D → Nat → Prop} {t1 t2 t3 t4 : TO} (h : Wn c (tOp (rADD K) (tSl (rSL K) te t1 t2) (tSl (rSL K) te2 t3 t4)) ⟨sl, nn⟩ fun w n => Φ (outO w) n) : Wp c (tOp (rADD K) (tSl (rSL K) te t1 t2) (tSl (rSL K) te2 t3 t4)) ⟨sl, nn⟩ Φ := wp_new h
theorem ps_tup2O {X : Cx} {st : Stmt} {i j : Nat} {ta tb : TE} (h : PS X st (tAsg (tTup (tCons ta (tCons tb tNil))) (gTup K 2 (gCons (gName i) (gCons (gName j) gNil))))) : PS X st (tTup2O K i j ta tb) := h
end
end Wx

/-! ### part Xe -/
set_option Elab.async false
set_option linter.all false
set_option maxRecDepth 100000
set_option maxHeartbeats 2000000
set_option autoImplicit false
/-! enumerate of a tuple. -/
namespace PySem
open AutoSeq1 (wpAny_loadPart')
theorem meets_enumerate_newT (l : Addr) (items : Array Value) (n : Nat) (dct : Option Addr) (sl : Array (Option Value)) :
    Meets (Builtin.«enumerate.__new__» ⟨[.type "enumerate", .ref l], []⟩) (fun _ R s => s.heap.get? l = some { cls := .type "tuple", dict := dct, data := .seq items n, slots := sl } ∧
      R (.ok (.ret (.ref (s.heap.push { cls := .type "tuple_iterator", data := .fields #[.ref l, .int 0 0] }).objs.size)))
        { s with heap := (s.heap.push { cls := .type "tuple_iterator", data := .fields #[.ref l, .int 0 0] }).push { cls := .type "enumerate", data := .fields #[.none, .bool false, .ref s.heap.objs.size, rawInt 0, .none, .none] } }) :=
  .of_wp fun prog w A R s h => by
    obtain ⟨hp, g, d, tk, os⟩ := s; obtain ⟨hl, h⟩ := h
    have hsub := sub_enumerate
    have hL : Heap.IsTuple (Shared.heap ⟨hp, g, d, tk, os⟩) l items := ⟨_, hl, rfl, n, rfl⟩
    wp_walk using wpAny_loadPart' hl
    refine wpAny_stack_any fun st => wpAny_pure ?_
    split
    · rename_i c _ _ _ _ _
      cases (c == Value.type "enumerate")
      · wp_walk using wpAny_loadPart' hl, wpAny_pyIter_tuple hL
        exact ⟨_, rfl, h⟩
      · wp_walk using wpAny_loadPart' hl, wpAny_pyIter_tuple hL
        exact ⟨_, rfl, h⟩
    · wp_walk using wpAny_loadPart' hl, wpAny_pyIter_tuple hL
      exact ⟨_, rfl, h⟩
section
variable {prog : Program} {w : World} {A : Around} {E : Value → Shared → Prop} {s : Shared}
theorem call_enumerate_tup {l : Addr} {items : Array Value} {Q : Value → Shared → Prop} (hL : s.heap.IsTuple l items)
    (h : ∀ h', IsEnum h' (s.heap.objs.size + 1) s.heap.objs.size 0 .none → h'.IsTupleIter s.heap.objs.size l 0 → h'.objs.size = s.heap.objs.size + 2 →
      (∀ b o, s.heap.get? b = some o → h'.get? b = some o) → Q (.ref (s.heap.objs.size + 1)) { s with heap := h' }) :
    wpAny (model prog w) A (call (.type "enumerate") [.ref l]) Q E s := by
  obtain ⟨⟨c, dct, dt, sl⟩, hl, hc, n, hd⟩ := hL
  replace hc : c = .type "tuple" := hc
  replace hd : dt = .seq items n := hd
  subst hc hd
  refine callType_new F.called_enumerate (by decide) (F.typeCall_enumerate_1 _) (F.newCall_enumerate_1 _) (fun obj => F.args_object_init_2 obj _) F.entry_enumerate_new
    (meets_enumerate_newT l items n dct sl) ⟨hl, ?_⟩
  have hz : (s.heap.push { cls := .type "tuple_iterator", data := .fields #[.ref l, .int 0 0] }).objs.size = s.heap.objs.size + 1 := Heap.size_push ..
  show _ ∧ _
  rw [hz]
  have he : IsEnum ((s.heap.push { cls := .type "tuple_iterator", data := .fields #[.ref l, .int 0 0] }).push
      { cls := .type "enumerate", data := .fields #[.none, .bool false, .ref s.heap.objs.size, rawInt 0, .none, .none] }) (s.heap.objs.size + 1) s.heap.objs.size 0 .none := by
    have := Heap.get?_push_size (s.heap.push { cls := .type "tuple_iterator", data := .fields #[.ref l, .int 0 0] })
      (o := { cls := .type "enumerate", data := .fields #[.none, .bool false, .ref s.heap.objs.size, rawInt 0, .none, .none] }) rfl
    rw [hz] at this; exact this
  refine ⟨⟨_, he, rfl⟩, h _ he ⟨_, Heap.get?_push_of_some _ (Heap.get?_push_size _ rfl), rfl, rfl⟩ (by rw [Heap.size_push, hz]) fun b o x => Heap.get?_push_of_some _ (Heap.get?_push_of_some _ x)⟩
end
theorem Draws.tup {prog : Program} {w : World} {A : Around} (hh : A.handled = none) (it l : Addr) (hne : l ≠ it) (items : Array Value) :
    Draws prog w A it [it, l] items.size (fun i v => items[i]? = some v) (fun i h => h.IsTupleIter it l i ∧ h.IsTuple l items) where
  live := fun _ _ st => let ⟨o, ho, _⟩ := st.1; ⟨o, ho⟩
  frame := fun _ _ _ st hk => ⟨st.1.at fun o e => hk it (by simp) o e, st.2.at fun o e => hk l (by simp) o e⟩
  item := fun i s Q E hi st hQ => by
    refine RZ.nextOf_tuple_item st.1 st.2 (x := items[i]) (by simp [hi]) fun h' hit' hs' => ?_
    exact hQ _ h' s.toks (by simp [hi]) ⟨hit', st.2.extBut hs'.extBut hne⟩ hs'
  done := fun s Q E st hE => RZ.nextOf_tuple_end hh st.1 st.2 (by simp) hE
end PySem
namespace L2
open PySem PySem.Spec PyProof.Rows
/-- the tuple at a, each item in a new pair -/
def IteT (K : PySem.W.Frag) (a : Addr) : It :=
  ⟨fun i H => ∃ (xs : List V) (x : V), SqT K H a xs ∧ xs[i]? = some x, fun i H v H' => ∃ T x, v = .ref T ∧ H T = none ∧ H' = upd H T (.tup [.int (i : Nat), x]) ∧ ∀ xs, SqT K H a xs → xs[i]? = some x, fun i H => ∃ xs : List V, SqT K H a xs ∧ xs.length ≤ i⟩
theorem turn_enumT {P : Program} {w : World} {K : PySem.W.Frag} {elts : List Expr} {kk : Nat} {tpos : Pos} (a e it : Addr) (hai : a ≠ it) (hae : a ≠ e) :
    Turn P w K (.Tuple elts kk tpos) (IteT K a) [e, it] e (fun i h => (∃ old, IsEnum h e it ((i : Nat) : Int) old) ∧ h.IsTupleIter it a i ∧ e ≠ it) where
  mem := by simp
  obj := fun i h st b hb => by
    obtain ⟨⟨old, he⟩, ⟨o, ho, hc, hd⟩, _⟩ := st
    have e' : b = e ∨ b = it := by simpa using hb
    rcases e' with z | z
    · rw [z]; exact ⟨_, he, fun v q => nomatch q⟩
    · rw [z]; exact ⟨o, ho, fun v q => by rw [hd] at q; cases q⟩
  keep := fun i h h' st k => let ⟨⟨old, he⟩, hi, hne⟩ := st; ⟨⟨old, k e (by simp) _ he⟩, hi.at fun o q => k it (by simp) o q, hne⟩
  item := by
    intro X hP hw hK hc i pins s σ H E I hf st hg
    subst hP hw hK
    obtain ⟨⟨old, he⟩, hit, hne⟩ := st
    obtain ⟨xs, x, hq, hx⟩ := hg
    obtain ⟨its, rv, p, hz⟩ := I.tuple hq
    obtain ⟨u, hu, ru⟩ := rv.get hx
    have hel : e < s.heap.objs.size := Heap.lt_size he
    have hil : it < s.heap.objs.size := by obtain ⟨_, q, _⟩ := hit; exact Heap.lt_size q
    have hlt : i < its.toArray.size := by
      have := (List.getElem?_eq_some_iff.mp hu).1
      simpa using this
    have hh : X.A.in1.handled = none := I.ok.hd hc
    refine wpAny_pyNext_enum_itemD (Draws.tup hh it a hai its.toArray) he ⟨hit, p⟩ hlt hne (by simp [hne, Ne.symm hae]) fun y h' tk hy ho hit' hT hsz hk => ?_
    have ey : y = u := by
      have h1 : its.toArray[i]? = some u := by simpa using hu
      rw [h1] at hy
      exact (Option.some.inj hy).symm
    subst ey
    refine ⟨_, rfl, wpAny_letOwnedTupleGo_enum (s := { s with heap := h', toks := tk + 1 }) ho fun h'' he' sb => ?_⟩
    have hT2 : h''.get? s.heap.objs.size = some { cls := .type "tuple", data := .seq #[.int i tk, y] } := (sb.2 _ (Nat.ne_of_gt hel)).trans hT
    have new : ObjOk X.prog X.w (upd H s.heap.objs.size (.tup [.int (i : Nat), x])) h'' s.heap.objs.size (.tup [.int (i : Nat), x]) :=
      ⟨by show 2 ≤ sizeLine; decide, [.int i tk, y], .cons ⟨_, rfl⟩ (.cons ru .nil), ⟨_, hT2, rfl, _, rfl⟩⟩
    have I1 : Inv X pins σ (upd H s.heap.objs.size (.tup [.int (i : Nat), x])) { s with heap := h'', toks := tk + 1 } :=
      I.turnedNew (ch := [e, it]) (fun b ob hb q => (sb.2 b (fun z => hb (by simp [z]))).trans (hk b ob (fun z => hb (by simp [z])) (fun z => hb (by simp [z])) q)) hf (Nat.le_refl _) new
    refine ⟨.ref s.heap.objs.size, _, I1, rfl, ⟨_, x, rfl, I.hok.fresh (Nat.le_refl _), rfl, fun ys hy => by rw [I.tuple_inj hy hq]; exact hx⟩, ⟨⟨y, ?_⟩, hit'.1.at fun o q => (sb.2 it (Ne.symm hne)).trans q, hne⟩, fun b hb => ?_⟩
    · have e1 : ((i + 1 : Nat) : Int) = (i : Int) + 1 := by omega
      rw [e1]; exact he'
    · have hb' : b < s.heap.objs.size := by
        have e' : b = e ∨ b = it := by simpa using hb
        rcases e' with z | z
        · rw [z]; exact hel
        · rw [z]; exact hil
      rw [upd_ne (Nat.ne_of_lt hb')]
      exact (hf b hb).1
  done := by
    intro X hP hw hK hc i pins s σ H E I hf st hg
    subst hP hw hK
    obtain ⟨⟨old, he⟩, hit, hne⟩ := st
    obtain ⟨xs, hq, hx⟩ := hg
    obtain ⟨its, rv, p, hz⟩ := I.tuple hq
    obtain ⟨f0, f1, f2, f3, f4, f5⟩ := hf it (by simp)
    have hl := rv.length
    have hh : X.A.in1.handled = none := I.ok.hd hc
    unfold pyNext
    have hT : s.TypeIs (.ref e) "enumerate" := ⟨_, he, rfl⟩
    refine wpAny_bind (wpAny_attempt (wpAny_callSpecial?_slot (name := Str.ofString "__next__") hT F.slot_enumerate_next
      (wpAny_call_entry F.slot_enumerate_next hT F.entry_enumerate_next ?_ (F.args_enumerate_next_1 _))))
    show wpAny _ _ (field (.ref e) 2 >>= _) _ _ _
    refine wpAny_bind (wpAny_field he rfl (x := .ref it) rfl ?_)
    refine wpAny_bind (RZ.nextOf_tuple_end hh hit p (by simp; omega) fun h' x he' hx' => ?_)
    obtain ⟨o, ho, hc⟩ := hx'
    refine wpAny_bind (wpAny_isInstance (T := "StopIteration") (b := true) ⟨o, ho, hc⟩ isSubtype_stop ?_)
    exact wpAny_pure ⟨rfl, I.turned (t' := s.toks) (fun b o hb q => he' b o hb q) f0 f1 f3 f4 f5⟩
  self := fun A i s Q E st h => let ⟨⟨_, he⟩, _⟩ := st; wpAny_pyIter_enum he h
def iEnumT (K : PySem.W.Frag) (ta : TA) : TI := fun σ H R => ta σ H fun vs H1 => ∃ a xs, vs = [.ref a] ∧ SqT K H1 a xs ∧ R (IteT K a) H1
theorem pi_enumT {X : Cx} {e : Expr} {ta : TA} {p pos tpos : Pos} {elts : List Expr} {kk : Nat} (hg : Gl X "enumerate") (hm : X.mg "enumerate" = none) (ha : PA X [e] ta) (hs : starEach [e] X.env = [(false, eval e X.env)] := by rfl) :
    PI X (.Tuple elts kk tpos) (.Call (.Name "enumerate" p) [e] [] pos) (iEnumT X.K ta) := by
  refine ⟨fun pins s σ H R I h => ?_⟩
  refine Call_ (ld_blt I hg hm boot_enumerate (PyProof.Rows.callWith_type1 (thn (ha.run pos pins s σ H _ I h) fun us s1 ⟨vs, H1, I1, r1, q1⟩ => ?_) hs rfl))
  obtain ⟨a, xs, ex, hq, q⟩ := q1
  subst ex
  cases r1 with
  | cons r rr =>
    cases rr
    cases r
    obtain ⟨its, rv, p', hz⟩ := I1.tuple hq
    have hal : a < s1.heap.objs.size := by obtain ⟨o, ho, _⟩ := p'; exact Heap.lt_size ho
    refine call_enumerate_tup p' fun h' he hit hsz hk => wpAny_pyIter_enum he ?_
    have I2 : Inv X pins σ H1 { s1 with heap := h' } := I1.kept (t' := s1.toks) hk
    refine ⟨s1.heap.objs.size + 1, [s1.heap.objs.size + 1, s1.heap.objs.size], _, _, H1, rfl, I2, turn_enumT a (s1.heap.objs.size + 1) s1.heap.objs.size (Nat.ne_of_lt hal) (Nat.ne_of_lt (Nat.lt_succ_of_lt hal)), ⟨⟨.none, he⟩, hit, Nat.succ_ne_self _⟩, fun b hb => ?_, q⟩
    have e' : b = s1.heap.objs.size + 1 ∨ b = s1.heap.objs.size := by simpa using hb
    have hle : s1.heap.objs.size ≤ b := by
      rcases e' with z | z
      · rw [z]; exact Nat.le_add_right _ _
      · rw [z]; exact Nat.le_refl _
    exact I1.fpOk hle (I1.hok.fresh hle)
end L2

/-! ### part Xr -/
set_option Elab.async false
set_option linter.all false
set_option maxRecDepth 100000
set_option maxHeartbeats 1000000
set_option autoImplicit false
/-! Texts, labels, dicts: more rules. -/
namespace L2
open PySem PySem.Spec PyProof.Rows
section
variable {X : Cx}
/-- l.insert(i, y) -/
def rInsert : V → List V → Hp → VK → Prop := fun x vs H Q => ∃ (l : Addr) (xs : List V) (i : Int) (y : V), x = .ref l ∧ vs = [.int i, y] ∧ H l = some (.lst xs) ∧ xs.length < sizeLine ∧ 0 ≤ i ∧ i < 2 ^ 63 ∧
    Q .non (upd H l (.lst (xs.take i.toNat ++ [y] ++ xs.drop i.toNat)))
theorem mt_insW : MtR X "list.insert" rInsert := mt_insert
/-- x * n, a text -/
def rMulS : R2 := fun x y H Q => ∃ a n, x = .str a ∧ y = .int n ∧ MulOk a n ∧ Q (.str (Txt.mul a n)) H
theorem op_mulS : OpR X (binaryOp .Mult) rMulS := by
  intro pins s σ H x y v u Q I rx ry h
  obtain ⟨a, n, rfl, rfl, hm, q⟩ := h
  obtain ⟨t, rfl⟩ := rx
  obtain ⟨t', rfl⟩ := ry
  exact SB.mul hm fun t2 k => ⟨.str _, H, I.tok k, ⟨_, rfl⟩, q⟩
/-- a dict that is given back is locked -/
def tRetL (te : TE) : TS := fun D σ H => te σ H fun v H1 => ∃ a kvs, v = .ref a ∧ H1 a = some (.dK kvs) ∧ ∀ od, D.rt v (upd H1 a (.frz od (.dK kvs)))
theorem ps_retL {e : Expr} {te : TE} {pos : Pos} (h : PE X e te) : PS X (.Return (some e) pos) (tRetL te) := by
  refine ⟨fun pins s σ H D I hw => ?_⟩
  refine ((ps_ret (X := X) (pos := pos) (te := fun σ H Q => te σ H fun v H1 => ∃ a kvs, v = .ref a ∧ H1 a = some (.dK kvs) ∧ ∀ od, Q v (upd H1 a (.frz od (.dK kvs)))) ⟨fun pins s σ H Q I h2 => ?_⟩).run pins s σ H D I hw)
  refine thn (h.run pins s σ H _ I h2) fun v s1 ⟨x, H1, I1, r1, a, kvs, ex, hd, q⟩ => ?_
  obtain ⟨od, I2⟩ := I1.lock hd trivial
  exact ⟨x, _, I2, r1, q od⟩
end
end L2

/-! ### part Xs -/
set_option Elab.async false
set_option linter.all false
set_option maxRecDepth 100000
set_option maxHeartbeats 1000000
set_option autoImplicit false
/-! Texts, labels, dicts: the rules, told by data. -/
namespace Wx
open PySem L2
/-! ## labels -/
instance memDec (s : Key) (l : List Key) : Decidable (s ∈ l) := @List.instDecidableMemOfLawfulBEq Key instBEqOfDecidableEq inferInstance s l
def lab : Key → PyData
  | .inl i => .int i
  | .inr s => .str s
def labs (l : List Key) : List PyData := l.map lab
abbrev pile (l : List Key) : PyData := .tuple (labs l)
def gdK : Key → Bool
  | .inl _ => true
  | .inr s => PyData.strOk s
theorem eqv_lab (k l : Key) : PyData.eqv (lab k) (lab l) = decide (k = l) := by
  cases k <;> cases l <;> simp [lab, PyData.eqv, Bool.beq_eq_decide_eq]
theorem eqvAll_lab : ∀ l m : List Key, PyData.eqvAll (labs l) (labs m) = decide (l = m)
  | [], [] => by simp [labs, PyData.eqvAll]
  | s :: l, t :: m => by
    have ih := eqvAll_lab l m
    unfold labs at ih ⊢
    rw [List.map_cons, List.map_cons, PyData.eqvAll, ih, eqv_lab]
    simp
  | [], _ :: _ => by simp [labs, PyData.eqvAll]
  | _ :: _, [] => by simp [labs, PyData.eqvAll]
theorem eqv_pile (l m : List Key) : PyData.eqv (pile l) (pile m) = decide (l = m) := by rw [PyData.eqv]; exact eqvAll_lab l m
theorem labs_len (l : List Key) : (labs l).length = l.length := List.length_map _
theorem labs_at {l : List Key} {i : Nat} {s : Key} (h : l[i]? = some s) : atI (labs l) (i : Int) = some (lab s) := atI_nat (by unfold labs; rw [List.getElem?_map, h] <;> rfl)
theorem labs_item {l : List Key} {i : Nat} {d : D} (h : ((labs l).map D.py)[i]? = some d) : ∃ s, l[i]? = some s ∧ s ∈ l ∧ d = .py (lab s) := by
  unfold labs at h
  rw [List.getElem?_map, List.getElem?_map] at h
  cases q : l[i]? with
  | none => rw [q] at h; cases h
  | some s => rw [q] at h; cases h; exact ⟨s, rfl, List.mem_of_getElem? q, rfl⟩
theorem labs_drop (l : List Key) (i : Nat) : (labs l).drop i = labs (l.drop i) := by unfold labs; rw [List.map_drop]
theorem labs_take (l : List Key) (i : Nat) : (labs l).take i = labs (l.take i) := by unfold labs; rw [List.map_take]
theorem labs_app (l m : List Key) : labs l ++ labs m = labs (l ++ m) := by unfold labs; rw [List.map_append]
theorem mem_lab (s : Key) (l : List Key) : Mem (lab s) (labs l) = decide (s ∈ l) := by
  unfold Mem labs
  rw [List.any_map]
  induction l with
  | nil => simp
  | cons t l ih =>
    rw [List.any_cons, ih]
    simp only [Function.comp, eqv_lab, List.mem_cons]
    by_cases h : t = s
    · subst h; simp
    · have h2 : ¬ s = t := fun z => h z.symm
      simp [h, h2]
theorem shp_lab {k : Key} (h : gdK k = true) : SeqAt.shaped (lab k) = true := by
  cases k with
  | inl i => exact shp_int i
  | inr s => exact shp_str h
theorem shpA_lab : ∀ {l : List Key}, (∀ k ∈ l, gdK k = true) → PyData.canLayAll0 (labs l) = true ∧ PyData.depthAll (labs l) ≤ 0
  | [], _ => ⟨rfl, by simp [labs, PyData.depthAll]⟩
  | k :: l, h => by
    obtain ⟨h1, h2⟩ := shpA_lab (l := l) fun x hx => h x (List.mem_cons_of_mem _ hx)
    have hk := h k List.mem_cons_self
    unfold labs at h1 h2 ⊢
    have z : PyData.canLay0 (lab k) = true ∧ PyData.depth (lab k) = 0 := by
      cases k with
      | inl i => exact ⟨rfl, by simp [lab, PyData.depth]⟩
      | inr s => exact ⟨by rw [lab, PyData.canLay0]; exact hk, by simp [lab, PyData.depth]⟩
    refine ⟨by rw [List.map_cons, PyData.canLayAll0, h1, z.1]; rfl, ?_⟩
    rw [List.map_cons, PyData.depthAll]
    omega
theorem shp_pile {l : List Key} (h : ∀ k ∈ l, gdK k = true) : SeqAt.shaped (pile l) = true := by
  obtain ⟨h1, h2⟩ := shpA_lab h
  unfold SeqAt.shaped
  rw [Bool.and_eq_true]
  exact ⟨by rw [PyData.canLay0]; exact h1, decide_eq_true (by rw [PyData.depth]; omega)⟩
/-! ## the signs of a text -/
def signs (x : Str) : List D := x.cps.toList.map fun c => D.py (.str ⟨#[c]⟩)
theorem signs_len (x : Str) : (signs x).length = x.cps.size := by unfold signs; rw [List.length_map]; simp
theorem signs_item {x : Str} {i : Nat} {d : D} (h : (signs x)[i]? = some d) : ∃ c, x.cps[i]? = some c ∧ c ∈ x.cps.toList ∧ d = .py (.str ⟨#[c]⟩) := by
  unfold signs at h
  rw [List.getElem?_map] at h
  cases q : x.cps.toList[i]? with
  | none => rw [q] at h; cases h
  | some c => rw [q] at h; cases h; exact ⟨c, by simpa using q, List.mem_of_getElem? q, rfl⟩
def rInSg : R2 := fun x y H Q => ∃ (c : Nat) (z : Str), x = .str ⟨#[c]⟩ ∧ y = .str z ∧ Q (.bl (decide (c ∈ z.cps.toList))) H
theorem opInSg {X : Cx} : OpR X (compareOp .In) rInSg := op_in_sign
def GStr (mg : Str → Option Value) (x : Str) (s : Str) : Prop := ∃ t, mg x = some (.str s t)
theorem pe_gstr {X : Cx} {x s : Str} {pos : Pos} (h : GStr X.mg x s) (hg : Gl X x) (hd : (x == ("__debug__" : Str)) = false := by decide) : PE X (.Name x pos) (tC (.str s)) := by
  obtain ⟨t, h⟩ := h
  exact pe_glob hg h ⟨t, rfl⟩ hd
section
variable {c : Cy} {m : Bool} {K : PySem.W.Frag} {A M : Addr → Prop} {H : Hp} {v : V} {Θ : List D → Nat → Prop} {ta : TA} {te ty tx td : TE} {sl : List Slo} {n nn : Nat} {Φ : D → Nat → Prop} {Ψ : Ow → Nat → Prop} {P : Po}
theorem wi_str (h : Wp c te ⟨sl, nn⟩ fun d n => ∃ x, d = .py (.str x) ∧ Θ (signs x) n) : Wi c m (iStr te) ⟨sl, nn⟩ Θ := ⟨fun σ A H o R k => by
  refine h.run σ A H o _ fun v H1 d n p e1 g1 x => ?_
  obtain ⟨z, rfl, q⟩ := p
  cases Da.str_eq x
  refine ⟨z, rfl, k _ H1 _ n q e1 g1 ⟨fun H' i kk hi => by rw [signs_len] at hi; exact hi, fun H' i kk hi => by rw [signs_len] at hi; exact hi, fun H' i y H'' kk hi w => ?_⟩⟩
  obtain ⟨rfl, ch, hc, rfl⟩ := w
  refine ⟨.py (.str ⟨#[ch]⟩), ?_, .inl rfl, fun B _ _ _ => .str _⟩
  unfold signs
  rw [List.getElem?_map, show z.cps.toList[i]? = some ch by simpa using hc]
  rfl⟩
theorem rw_inSg {ch : Nat} {z : Str} (h : Φ (.py (.bool (decide (ch ∈ z.cps.toList)))) n) : Rw c rInSg (.py (.str ⟨#[ch]⟩)) (.py (.str z)) n Φ := ⟨fun A H v1 v2 a x1 x2 Q k => by
  cases Da.str_eq x1
  cases Da.str_eq x2
  exact ⟨ch, z, rfl, rfl, k _ H _ n h Ek.refl a.good (.bl _)⟩⟩
theorem rw_mulS {a : Str} {i : Int} (hm : MulOk a i) (h : Φ (.py (.str (Txt.mul a i))) n) : Rw c rMulS (.py (.str a)) (.py (.int i)) n Φ := ⟨fun A H v1 v2 at' x1 x2 Q k => by
  cases Da.str_eq x1
  cases Da.int_eq x2
  exact ⟨a, i, rfl, rfl, hm, k _ H _ n h Ek.refl at'.good (.str _)⟩⟩
/-! ## d.get(k, x), k not in d -/
theorem dget_rd {a : Addr} {kvs : List (Key × V)} {y : Key} (r : Rd H a (.dK kvs)) : DGet H a (kV y) (valV kvs y) := .inl ⟨kvs, y, r, rfl, rfl⟩
/-- what holds a dict to be read -/
def RdD (c : Cy) (A : Addr → Prop) (H : Hp) (v : V) (ds : List (Key × PyData)) : Prop := ∃ a kvs, v = .ref a ∧ Rd H a (.dK kvs) ∧ KvR c.K A H kvs ds
def Slo.dict (s : Slo) (ds : List (Key × PyData)) : Prop := s = .own (.dct ds) ∨ s = .val (.dct ds) ∨ s = .val (.dcl ds)
theorem Ok.dict {σ : St} {e : En} (o : Ok c A H σ e) {i : Nat} {s : Slo} {ds : List (Key × PyData)} (hi : e.sl[i]? = some s) (hs : s.dict ds) : ∃ v, σ[i]? = some (some v) ∧ RdD c A H v ds := by
  rcases hs with rfl | rfl | rfl
  · obtain ⟨a, h1, ⟨kvs, h2, h3⟩, h4⟩ := o.own i _ hi
    exact ⟨_, h1, a, kvs, rfl, .inl h2, h3⟩
  · obtain ⟨_, v, h1, a, kvs, rfl, na, h2, h3⟩ := o.val i _ hi
    exact ⟨_, h1, a, kvs, rfl, .inl h2, h3⟩
  · obtain ⟨_, v, h1, a, kvs, od, rfl, na, h2, h3⟩ := o.val i _ hi
    exact ⟨_, h1, a, kvs, rfl, .inr ⟨od, h2⟩, h3⟩
theorem dk1 {ds : List (Key × PyData)} : (Slo.own (.dct ds)).dict ds := .inl rfl
theorem dk2 {ds : List (Key × PyData)} : (Slo.val (.dct ds)).dict ds := .inr (.inl rfl)
theorem dk3 {ds : List (Key × PyData)} : (Slo.val (.dcl ds)).dict ds := .inr (.inr rfl)
theorem wp_dget2 {i : Nat} {s : Slo} {ds : List (Key × PyData)} (hi : sl[i]? = some s) (hs : s.dict ds)
    (h : Wp c ty ⟨sl, nn⟩ fun d n => KeyD d fun k => Wp c tx ⟨sl, n⟩ fun d2 m => ∃ p2, d2 = .py p2 ∧ Φ (.py ((valP ds k).getD p2)) m) : Wp c (tDGet2 (tVar i) ty tx) ⟨sl, nn⟩ Φ := ⟨fun σ A H o Q k => by
  obtain ⟨v, h1, a, kvs, rfl, r, t⟩ := o.dict hi hs
  refine ⟨.ref a, h1, a, rfl, .inl ⟨kvs, r⟩, h.run σ A H o _ fun y H1 d n p e1 g1 x => ?_⟩
  obtain ⟨y, rfl, p⟩ := key_of p x
  have o1 := o.keep e1 g1
  refine p.run σ A H1 o1 _ fun z H2 d2 m q e2 g2 x2 => ?_
  obtain ⟨p2, rfl, q⟩ := q
  have o2 := o1.keep e2 g2
  obtain ⟨v', h1', a', kvs', rfl, r', t'⟩ := o2.dict hi hs
  rw [h1] at h1'; cases h1'
  refine ⟨_, dget_rd r', ?_⟩
  rcases t'.get y with ⟨z1, z2⟩ | ⟨u, w, z1, z2, z3⟩
  · rw [z2]; rw [z1] at q; exact k _ H2 _ m q (e1.trans e2) g2 x2
  · rw [z2]; rw [z1] at q; exact k _ H2 _ m q (e1.trans e2) g2 z3⟩
theorem wp_dnotin2 {i : Nat} {s : Slo} {ds : List (Key × PyData)} (hi : sl[i]? = some s) (hs : s.dict ds) (h : Wp c ty ⟨sl, nn⟩ fun d n => KeyD d fun k => Φ (.py (.bool (!(valP ds k).isSome))) n) : Wp c (tDNotIn ty (tVar i)) ⟨sl, nn⟩ Φ := ⟨fun σ A H o Q k => by
  refine h.run σ A H o _ fun v H1 d n p e1 g1 x => ?_
  obtain ⟨y, rfl, q⟩ := key_of p x
  have o1 := o.keep e1 g1
  obtain ⟨v, h1, a, kvs, rfl, r, t⟩ := o1.dict hi hs
  refine ⟨.ref a, h1, a, valV kvs y, rfl, dget_rd r, ?_⟩
  rcases t.get y with ⟨z1, z2⟩ | ⟨u, w, z1, z2, _⟩
  · rw [z2]; rw [z1] at q; exact k _ H1 _ n q e1 g1 (.bl _)
  · rw [z2]; rw [z1] at q; exact k _ H1 _ n q e1 g1 (.bl _)⟩
theorem wp_dget3 {i : Nat} {s : Slo} {ds : List (Key × PyData)} (hi : sl[i]? = some s) (hs : s.dict ds) (h : Wp c ty ⟨sl, nn⟩ fun d n => KeyD d fun k => ∃ p, valP ds k = some p ∧ Φ (.py p) n) : Wp c (tDGet (tVar i) ty) ⟨sl, nn⟩ Φ := ⟨fun σ A H o Q k => by
  obtain ⟨v, h1, a, kvs, rfl, r, t⟩ := o.dict hi hs
  refine ⟨.ref a, h1, h.run σ A H o _ fun v H1 d n p e1 g1 x => ?_⟩
  obtain ⟨y, rfl, u, z, q⟩ := key_of p x
  have o1 := o.keep e1 g1
  obtain ⟨v', h1', a', kvs', rfl, r', t'⟩ := o1.dict hi hs
  rw [h1] at h1'; cases h1'
  rcases t'.get y with ⟨z1, z2⟩ | ⟨u', w, z1, z2, z3⟩
  · rw [z] at z1; cases z1
  · rw [z] at z1; cases z1
    exact ⟨_, w, rfl, by rw [← z2]; exact dget_rd r', k w H1 _ n q e1 g1 z3⟩⟩
theorem key_lab {l : Key} {k : Key → Prop} (h : k l) : KeyD (.py (lab l)) k := by
  cases l <;> exact h
/-! ## enumerate, items, sum -/
def enumD (ds : List PyData) : List D := ds.mapIdx fun i p => D.py (.tuple [.int (i : Int), p])
theorem enumD_len (ds : List PyData) : (enumD ds).length = ds.length := List.length_mapIdx
theorem enumD_get {ds : List PyData} {i : Nat} : (enumD ds)[i]? = (ds[i]?).map fun p => D.py (.tuple [.int (i : Int), p]) := by unfold enumD; rw [List.getElem?_mapIdx]
theorem Da.tup_st {ds : List PyData} (hM : ∀ a, M a → A a) (x : Da K A H v (.tuple ds)) : ∃ a xs, v = .ref a ∧ (∀ H', Kept M H H' → SqT K H' a xs) ∧ DaL K A H xs ds := by
  cases x with
  | tup na r t => exact ⟨_, _, rfl, fun H' kk => .inl ((kk.mono hM).rd na r), t⟩
  | tupK r t => exact ⟨_, _, rfl, fun H' _ => r H', t⟩
theorem wi_enumT (hK : K = c.K) (h : Wa c ta ⟨sl, nn⟩ fun ds n => One ds fun d => ∃ xs, d = .py (.tuple xs) ∧ Θ (enumD xs) n) : Wi c m (iEnumT K ta) ⟨sl, nn⟩ Θ := ⟨fun σ A H o R k => by
  subst hK
  refine h.run σ A H o _ fun vs H1 ds n p e1 g1 x => ?_
  obtain ⟨v, d, rfl, x1, xs, rfl, q⟩ := one_of p x
  obtain ⟨a, us, rfl, s1, t1⟩ := Da.tup_st (M := Mm c m σ ⟨sl, nn⟩) (fun a z => Mm.sub o a z) x1
  have lu := t1.len
  refine ⟨a, us, rfl, s1 H1 Kept.refl, k _ H1 _ n q e1 g1 ⟨fun H' i kk hi => ?_, fun H' i kk hi => ?_, fun H' i z H'' kk hi y => ?_⟩⟩
  · rw [enumD_len] at hi
    exact ⟨us, us[i]'(by omega), s1 H' kk, List.getElem?_eq_getElem _⟩
  · rw [enumD_len] at hi
    exact ⟨us, s1 H' kk, by omega⟩
  · rw [enumD_len] at hi
    obtain ⟨T, x', rfl, hT, rfl, z1⟩ := y
    obtain ⟨p1, h1, d1⟩ := t1.got (z1 us (s1 H' kk))
    refine ⟨.py (.tuple [.int (i : Int), p1]), by rw [enumD_get, h1]; rfl, .inr ⟨T, _, hT, rfl⟩, fun B w w2 _ => ?_⟩
    have kT : Kept B H' (upd H' T (.tup [.int (i : Nat), x'])) := fun b u nb q => by rw [upd_ne (ne_of_none q hT)]; exact q
    have e1 : Da c.K B H' x' p1 := Da.to (kk.mono fun a z => Mm.sub o a z) w d1
    exact .tup (fun z => w2 T z hT) (.inl upd_same) (.cons (.int _) (.cons (e1.keep kT) .nil))⟩
def itemsD (ds : List (Key × PyData)) : List D := ds.map fun kp => D.py (.tuple [lab kp.1, kp.2])
theorem KvR.item : ∀ {kvs : List (Key × V)} {ds : List (Key × PyData)} {i : Nat} {k : Key} {v : V}, KvR K A H kvs ds → kvs[i]? = some (k, v) → ∃ p, ds[i]? = some (k, p) ∧ Da K A H v p
  | [], _, i, k, v, _, h => by simp at h
  | (x, u) :: r, (y, d) :: s, 0, k, v, ⟨e, h, t⟩, q => by
    simp at q
    obtain ⟨rfl, rfl⟩ := q
    exact ⟨d, by simp [e], h⟩
  | (x, u) :: r, (y, d) :: s, i + 1, k, v, ⟨e, h, t⟩, q => by
    obtain ⟨p, h1, h2⟩ := KvR.item (i := i) t (by simpa using q)
    exact ⟨p, by simpa using h1, h2⟩
  | _ :: _, [], _, _, _, h, _ => h.elim
theorem kV_lab {B : Addr → Prop} (k : Key) : Da K B H (kV k) (lab k) := by
  cases k with
  | inl i => exact .int i
  | inr s => exact .str s
theorem wi_items (h : Wp c td ⟨sl, nn⟩ fun d n => ∃ ds, d = .dcl ds ∧ Θ (itemsD ds) n) : Wi c m (iItems td) ⟨sl, nn⟩ Θ := ⟨fun σ A H o R k => by
  refine h.run σ A H o _ fun v H1 d n p e1 g1 x => ?_
  obtain ⟨ds, rfl, q⟩ := p
  obtain ⟨a, kvs, od, rfl, na, hd, t⟩ := x
  have st : ∀ H', Kept (Mm c m σ ⟨sl, nn⟩) H1 H' → H' a = some (.frz od (.dK kvs)) := fun H' kk => (kk.mono fun a z => Mm.sub o a z) a _ na hd
  have lk := t.len
  have ld : (itemsD ds).length = ds.length := List.length_map _
  refine ⟨a, od, kvs, rfl, hd, k _ H1 _ n q e1 g1 ⟨fun H' i kk hi => ⟨st H' kk, by omega⟩, fun H' i kk hi => ⟨st H' kk, by omega⟩, fun H' i z H'' kk hi y => ?_⟩⟩
  obtain ⟨T, ky, x', hk, rfl, hT, rfl⟩ := y
  obtain ⟨p1, h1, d1⟩ := t.item hk
  refine ⟨.py (.tuple [lab ky, p1]), by unfold itemsD; rw [List.getElem?_map, h1]; rfl, .inr ⟨T, _, hT, rfl⟩, fun B w w2 _ => ?_⟩
  have kT : Kept B H' (upd H' T (.tup [kV ky, x'])) := fun b u nb q => by rw [upd_ne (ne_of_none q hT)]; exact q
  have e1 : Da c.K B H' x' p1 := Da.to (kk.mono fun a z => Mm.sub o a z) w d1
  exact .tup (fun z => w2 T z hT) (.inl upd_same) (.cons (kV_lab ky) (.cons (e1.keep kT) .nil))⟩
theorem cw_sum {ds : List D} (hK : K = c.K) (h : One ds fun d => ∃ ns, d = .py (.list (nums ns)) ∧ Φ (.py (.int ns.sum)) n) : Cw c (rSum K) ds n Φ := ⟨fun A H vs a x Q k => by
  subst hK
  obtain ⟨v, d, rfl, x, ns, rfl, q⟩ := one_of h x
  obtain ⟨b, xs, rfl, hs, t⟩ := Da.list_at x
  rw [da_ints t] at hs
  exact ⟨b, ns, rfl, hs, k _ H _ n q Ek.refl a.good (.int _)⟩⟩
theorem sumK {X : Cx} (hK : X.K = K) (hc : X.calm = true) : CallR X (.builtin "sum") (rSum K) := hK ▸ cr_sum hc
def rSTR : List V → Hp → VK → Prop := fun xs H Q => ∃ i : Int, xs = [.int i] ∧ i.natAbs.log2 < 1920 ∧ Q (.str (toString i)) H
theorem callSTR {X : Cx} : CallR X (.type "str") rSTR := call_str_int
theorem cw_str {ds : List D} (h : One ds fun d => ∃ i : Int, d = .py (.int i) ∧ i.natAbs.log2 < 1920 ∧ Φ (.py (.str (toString i))) n) : Cw c rSTR ds n Φ := ⟨fun A H vs a x Q k => by
  obtain ⟨v, d, rfl, x, i, rfl, hz, q⟩ := one_of h x
  cases Da.int_eq x
  exact ⟨i, rfl, hz, k _ H _ n q Ek.refl a.good (.str _)⟩⟩
end
end Wx

/-! ### part Xt -/
set_option Elab.async false
set_option linter.all false
set_option maxRecDepth 100000
set_option maxHeartbeats 1000000
set_option autoImplicit false
/-! Locked dicts, three at once, insert, join, dict(..), dict comprehensions. -/
namespace Wx
open PySem L2
mutual
/-- data that stands beside a locked dict stays when the dict is unlocked -/
theorem Da.off {K : PySem.W.Frag} {A : Addr → Prop} {H : Hp} {a : Addr} {od : PySem.Obj} {kvs : List (Key × V)} {u : HO} (ha : H a = some (.frz od (.dK kvs))) : ∀ {v : V} {d : PyData}, Da K (fun b => A b ∧ b ≠ a) H v d → (A a) → Da K A (upd H a u) v d
  | _, _, .non, _ => .non
  | _, _, .bl b, _ => .bl b
  | _, _, .int i, _ => .int i
  | _, _, .str x, _ => .str x
  | _, _, .lst (a := b) n r t, aA => by
    have ne : b ≠ a := fun q => by
      subst q
      rcases r with r | ⟨o, r⟩ <;> rw [ha] at r <;> cases r
    exact .lst (fun z => n ⟨z, ne⟩) (by
      rcases r with r | ⟨o, r⟩
      · exact .inl (by rw [upd_ne ne]; exact r)
      · exact .inr ⟨o, by rw [upd_ne ne]; exact r⟩) (DaL.off ha t aA)
  | _, _, .tup (a := b) n r t, aA => by
    have ne : b ≠ a := fun q => by
      subst q
      rcases r with r | ⟨o, r⟩ <;> rw [ha] at r <;> cases r
    exact .tup (fun z => n ⟨z, ne⟩) (by
      rcases r with r | ⟨o, r⟩
      · exact .inl (by rw [upd_ne ne]; exact r)
      · exact .inr ⟨o, by rw [upd_ne ne]; exact r⟩) (DaL.off ha t aA)
  | _, _, .lstK r t, aA => .lstK r (DaL.off ha t aA)
  | _, _, .tupK r t, aA => .tupK r (DaL.off ha t aA)
theorem DaL.off {K : PySem.W.Frag} {A : Addr → Prop} {H : Hp} {a : Addr} {od : PySem.Obj} {kvs : List (Key × V)} {u : HO} (ha : H a = some (.frz od (.dK kvs))) : ∀ {vs : List V} {ds : List PyData}, DaL K (fun b => A b ∧ b ≠ a) H vs ds → (A a) → DaL K A (upd H a u) vs ds
  | _, _, .nil, _ => .nil
  | _, _, .cons h t, aA => .cons (Da.off ha h aA) (DaL.off ha t aA)
end
section
variable {c : Cy} {A B : Addr → Prop} {H : Hp} {σ : St} {e : En} {K : PySem.W.Frag} {te tb tc : TE} {sl : List Slo} {n nn : Nat} {Φ : D → Nat → Prop} {Ψ : Ow → Nat → Prop} {P : Po}
/-- a name is forgotten, what it holds stays -/
theorem Ok.drop {i : Nat} (o : Ok c A H σ e) : Ok c A H σ ⟨e.sl.set i .emp, e.n⟩ := by
  have f : ∀ {m : Nat} {s : Slo}, s ≠ .emp → (e.sl.set i Slo.emp)[m]? = some s → e.sl[m]? = some s ∧ i ≠ m := fun {m s} hs h => by
    by_cases q : i = m
    · subst q
      rw [List.getElem?_set] at h
      rw [if_pos rfl] at h
      split at h <;> cases h
      exact absurd rfl hs
    · rw [List.getElem?_set_ne q] at h
      exact ⟨h, q⟩
  refine ⟨by rw [List.length_set]; exact o.len, o.good, fun a z => o.sub a (z.elim .inl fun w => .inr (own_emp2 w)), o.al, fun j u h => o.val j u (f (s := .val u) (fun z => nomatch z) h).1, fun j w h => o.own j w (f (s := .own w) (fun z => nomatch z) h).1, fun j l w w' a h1 h2 h3 h4 => o.sep j l w w' a (f (s := .own w) (fun z => nomatch z) h1).1 (f (s := .own w') (fun z => nomatch z) h2).1 h3 h4⟩
/-- a name's value is told in other words -/
theorem Ok.tell {i : Nat} {v : V} {d : D} (o : Ok c A H σ ⟨e.sl.set i .emp, e.n⟩) (hi : i < e.sl.length) (hv : σ[i]? = some (some v)) (nm : d.nm = true) (x : DX c A H v d) : Ok c A H σ ⟨e.sl.set i (.val d), e.n⟩ := by
  have f : ∀ {m : Nat} {s : Slo}, i ≠ m → (e.sl.set i (.val d))[m]? = some s → (e.sl.set i Slo.emp)[m]? = some s := fun {m s} q h => by
    rw [List.getElem?_set_ne q] at h ⊢
    exact h
  have g : ∀ {w : Ow} {m : Nat}, (e.sl.set i (.val d))[m]? = some (.own w) → i ≠ m := fun {w m} h q => by
    subst q
    rw [List.getElem?_set_self hi] at h
    cases h
  refine ⟨by have := o.len; rw [List.length_set] at this ⊢; exact this, o.good, fun a z => o.sub a (z.elim .inl fun ⟨j, w, h1, h2⟩ => .inr ⟨j, w, f (g h1) h1, h2⟩), o.al, fun j u h => ?_, fun j w h => o.own j w (f (g h) h), fun j l w w' a h1 h2 h3 h4 => o.sep j l w w' a (f (g h1) h1) (f (g h2) h2) h3 h4⟩
  by_cases q : i = j
  · subst q
    have h' : (e.sl.set i (Slo.val d))[i]? = some (Slo.val u) := h
    rw [List.getElem?_set_self hi] at h'
    cases h'
    exact ⟨nm, v, hv, x⟩
  · exact o.val j u (f q h)
/-- an own dict is locked while an expression reads it -/
theorem wp_lock {i : Nat} {ds : List (Key × PyData)} (hi : sl[i]? = some (.own (.dct ds))) (h : Wp c te ⟨sl.set i (.val (.dcl ds)), nn⟩ fun d n => ∃ p, d = .py p ∧ Φ (.py p) n) : Wp c (tLockE te) ⟨sl, nn⟩ Φ := ⟨fun σ A H o Q k => by
  obtain ⟨a, h1, ⟨kvs, h2, h3⟩, h4⟩ := o.own i _ hi
  have lt : i < sl.length := (List.getElem?_eq_some_iff.mp hi).1
  have aA : A a := o.sub a (.inr ⟨i, _, hi, h1⟩)
  refine ⟨a, .dK kvs, h2, trivial, fun od => ?_⟩
  have nother : ∀ (j : Nat) (w : Ow), (sl.set i Slo.emp)[j]? = some (Slo.own w) → σ[j]? = some (some (V.ref a)) → False := fun j w z1 z2 => by
    by_cases q : i = j
    · subst q
      rw [List.getElem?_set_self lt] at z1
      cases z1
    · rw [List.getElem?_set_ne q] at z1
      exact q (o.sep i j _ w a hi z1 h1 z2)
  have kl : Kept A H (upd H a (.frz od (.dK kvs))) := fun b u nb q => by rw [upd_ne fun z => nb (by rw [z]; exact aA)]; exact q
  have o1 : Ok c A (upd H a (.frz od (.dK kvs))) σ ⟨sl.set i .emp, nn⟩ := (o.drop (i := i)).updD aA h4 nother
  have o2 : Ok c (fun b => A b ∧ b ≠ a) (upd H a (.frz od (.dK kvs))) σ ⟨sl.set i .emp, nn⟩ := o1.less (fun b z => z.1) fun b z => by
    refine ⟨o1.sub b z, fun q => ?_⟩
    subst q
    rcases z with z | ⟨j, w, z1, z2⟩
    · exact h4 z
    · exact nother j w z1 z2
  have x3 : DX c (fun b => A b ∧ b ≠ a) (upd H a (.frz od (.dK kvs))) (.ref a) (.dcl ds) := ⟨a, kvs, od, rfl, fun z => z.2 rfl, upd_same, (h3.keep kl).less fun b z => z.1⟩
  have o3 : Ok c (fun b => A b ∧ b ≠ a) (upd H a (.frz od (.dK kvs))) σ ⟨sl.set i (.val (.dcl ds)), nn⟩ := Ok.tell (e := ⟨sl, nn⟩) o2 lt h1 rfl x3
  refine h.run σ _ _ o3 _ fun v H2 d m p e1 g1 x => ?_
  obtain ⟨p, rfl, q⟩ := p
  have nk : c.k ≠ some a := fun z => h4 (c.hk a z)
  have ha2 : H2 a = some (.frz od (.dK kvs)) := e1 a _ nk upd_same
  refine ⟨ha2, k v _ (.py p) m q (fun b u nb w => ?_) ⟨fun b z => ?_, fun b z => ?_⟩ ?_⟩
  · by_cases q : b = a
    · subst q
      rw [h2] at w
      rw [upd_same]; exact w
    · rw [upd_ne q]
      exact e1 b u nb (by rw [upd_ne q]; exact w)
  · rw [upd_ne fun q => h4 (by rw [← q]; exact z)]; exact g1.al b z
  · rw [upd_ne fun q => nk (by rw [← q]; exact z)]; exact g1.kl b z
  · exact Da.off ha2 x aA⟩
end
end Wx

/-! ### part Xu -/
set_option Elab.async false
set_option linter.all false
set_option maxRecDepth 100000
set_option maxHeartbeats 1000000
set_option autoImplicit false
/-! Dicts given back, dict comprehensions, dict(..), insert, join. -/
namespace Wx
open PySem L2
section
variable {c : Cy} {A B : Addr → Prop} {H : Hp} {σ : St} {e : En} {K : PySem.W.Frag} {te tb tc to : TE} {sl : List Slo} {n nn : Nat} {Φ : D → Nat → Prop} {Ψ : Ow → Nat → Prop} {P : Po}
/-- an own dict is given back, locked -/
theorem ws_retL {i : Nat} {ds : List (Key × PyData)} (hi : sl[i]? = some (.own (.dct ds))) (h : P.rt (.dcl ds) nn) : Ws c (tRetL (tVar i)) ⟨sl, nn⟩ P := ⟨fun σ A H o Dn _ rt _ _ => by
  obtain ⟨a, h1, ⟨kvs, h2, h3⟩, h4⟩ := o.own i _ hi
  have nk : c.k ≠ some a := fun z => h4 (c.hk a z)
  have aA : A a := o.sub a (.inr ⟨i, _, hi, h1⟩)
  refine ⟨.ref a, h1, a, kvs, rfl, h2, fun od => ?_⟩
  have kl : Kept A H (upd H a (.frz od (.dK kvs))) := fun b u nb q => by rw [upd_ne fun z => nb (by rw [z]; exact aA)]; exact q
  refine rt (.ref a) _ (.dcl ds) nn h (fun b u nb q => by rw [upd_ne fun z => nb (.inr ⟨i, _, hi, by rw [z]; exact h1⟩)]; exact q) ⟨fun b z => ?_, fun b z => ?_⟩ ⟨a, kvs, od, rfl, h4, upd_same, (h3.keep kl).less fun b z => o.sub b (.inl z)⟩
  · rw [upd_ne fun q => h4 (by rw [← q]; exact z)]; exact o.good.al b z
  · rw [upd_ne fun q => nk (by rw [← q]; exact z)]; exact o.good.kl b z⟩
/-- a new dict is given back, locked -/
theorem ws_retLN (h : Wn c te ⟨sl, nn⟩ fun w n => ∃ ds, w = .dct ds ∧ P.rt (.dcl ds) n) : Ws c (tRetL te) ⟨sl, nn⟩ P := ⟨fun σ A H o Dn _ rt _ _ => by
  refine h.run σ A H o _ fun p H1 w m q e1 g1 hp t => ?_
  obtain ⟨ds, rfl, q⟩ := q
  obtain ⟨kvs, h2, h3⟩ := t
  have nA : ¬ A p := fun z => o.al p z hp
  have nS : ¬ c.S0 p := fun z => nA (o.sub p (.inl z))
  have nk : c.k ≠ some p := fun z => nS (c.hk p z)
  refine ⟨p, kvs, rfl, h2, fun od => ?_⟩
  have kl : Kept (fun b => A b ∨ b = p) H1 (upd H1 p (.frz od (.dK kvs))) := fun b u nb q => by rw [upd_ne fun z => nb (.inr z)]; exact q
  refine rt (.ref p) _ (.dcl ds) m q (fun b u nb w => ?_) ⟨fun b z => ?_, fun b z => ?_⟩ ⟨p, kvs, od, rfl, nS, upd_same, (h3.keep kl).less fun b z => .inl (o.sub b (.inl z))⟩
  · rw [upd_ne (ne_of_none w hp)]
    exact e1 b u (fun z => nb (.inl z)) w
  · rw [upd_ne fun q => nS (by rw [← q]; exact z)]; exact g1.al b z
  · rw [upd_ne fun q => nk (by rw [← q]; exact z)]; exact g1.kl b z⟩
/-- a sign of a text -/
theorem rw_ixS {z : Str} {i : Int} {ch : Nat} (hz : z.length ≤ sizeLine) (hc : atI z.cps.toList i = some ch) (h : Φ (.py (.str ⟨#[ch]⟩)) n) : Rw c (rIx K) (.py (.str z)) (.py (.int i)) n Φ := ⟨fun A H v1 v2 a x1 x2 Q k => by
  cases Da.str_eq x1
  cases Da.int_eq x2
  exact .inr (.inr ⟨z, i, ch, rfl, rfl, hz, hc, k _ H _ n h Ek.refl a.good (.str _)⟩)⟩
/-- sep.join(a list of texts) -/
def rJoin (K : PySem.W.Frag) : V → List V → Hp → VK → Prop := fun x xs H Q => ∃ a p, ∃ ys : List Str, x = .str a ∧ xs = [.ref p] ∧ (SqL K H p (ys.map V.str) ∨ SqT K H p (ys.map V.str)) ∧
      (ys.map (·.length)).sum + ys.length * a.length ≤ 16777216 ∧ Q (.str (Txt.join a ys)) H
theorem pe_joinK {X : Cx} {o e : Expr} {apos pos : Pos} (hK : X.K = K) (ho : PE X o to) (he : PE X e te) (hs : starEach [e] X.env = [(false, eval e X.env)] := by rfl) (hbase : attributeBase o "join" X.env (eval o X.env) = eval o X.env := by rfl) (hline : (apos.endLine == pos.line) = true := by rfl) :
    PE X (.Call (.Attribute o "join" apos) [e] [] pos) (tM1 (rJoin K) to te) := hK ▸ pe_join ho he hs hbase hline
theorem da_strs {S : Addr → Prop} {H : Hp} : ∀ {xs : List V} {ys : List Str}, DaL K S H xs (ys.map PyData.str) → xs = ys.map V.str
  | [], [], _ => rfl
  | _ :: _, [], h => by cases h
  | [], _ :: _, h => by cases h
  | x :: xs, y :: ys, h => by
    cases h with
    | cons a b =>
      cases Da.str_eq a
      rw [da_strs b]
      rfl
theorem wp_join (hK : K = c.K) (h : Wp c to ⟨sl, nn⟩ fun d n => ∃ a, d = .py (.str a) ∧ Wp c te ⟨sl, n⟩ fun d2 m => ∃ ys : List Str, d2 = .py (.list (ys.map PyData.str)) ∧ (ys.map (·.length)).sum + ys.length * a.length ≤ 16777216 ∧ Φ (.py (.str (Txt.join a ys))) m) : Wp c (tM1 (rJoin K) to te) ⟨sl, nn⟩ Φ := ⟨fun σ A H o Q k => by
  subst hK
  refine h.run σ A H o _ fun v H1 d n p e1 g1 x => ?_
  obtain ⟨a, rfl, p⟩ := p
  cases Da.str_eq x
  refine ⟨⟨a, rfl⟩, p.run σ A H1 (o.keep e1 g1) _ fun w H2 d2 m q e2 g2 x2 => ?_⟩
  obtain ⟨ys, rfl, hz, q⟩ := q
  obtain ⟨b, xs, rfl, hs, t⟩ := Da.list_at x2
  rw [da_strs t] at hs
  exact ⟨a, b, ys, rfl, rfl, .inl hs, hz, k _ H2 _ m q (e1.trans e2) g2 (.str _)⟩⟩
/-- xs.insert(i, e), xs a list of one's own -/
theorem ws_ins {i : Nat} {ds : List PyData} (hK : K = c.K) (hi : sl[i]? = some (.own (.lst ds))) (h : Wp c te ⟨sl, nn⟩ fun d n => ∃ j : Nat, d = .py (.int (j : Int)) ∧ Wp c tb ⟨sl, n⟩ fun d2 m => ∃ p, d2 = .py p ∧ ds.length < sizeLine ∧ j < 2 ^ 63 ∧ P.nx ⟨sl.set i (.own (.lst (ds.take j ++ [p] ++ ds.drop j))), m⟩) :
    Ws c (tDrop (tBM K "list" rInsert (tVar i) (tCons te (tCons tb tNil)))) ⟨sl, nn⟩ P := ⟨fun σ A H o Dn nx _ _ _ => by
  subst hK
  obtain ⟨a, h1, ⟨xs, h2, h3⟩, h4⟩ := o.own i _ hi
  refine ⟨.ref a, h1, .inl ⟨rfl, xs, SqL.of h2⟩, h.run σ A H o _ fun v H1 d n p e1 g1 x => ?_⟩
  obtain ⟨j, rfl, p⟩ := p
  cases Da.int_eq x
  have o1 := o.keep e1 g1
  refine p.run σ A H1 o1 _ fun w H2 d2 m q e2 g2 x2 => ?_
  obtain ⟨pp, rfl, hz, hj, q⟩ := q
  have o2 := o1.keep e2 g2
  have nk : c.k ≠ some a := fun z => h4 (c.hk a z)
  have ha : H2 a = some (.lst xs) := (e1.trans e2) a _ nk h2
  have aA : A a := o.sub a (.inr ⟨i, _, hi, h1⟩)
  have h3' : DaL c.K A H2 xs ds := h3.keep (Ek.kept (e1.trans e2) o.k)
  have k2 : Kept A H2 (upd H2 a (.lst (xs.take j ++ [w] ++ xs.drop j))) := fun b u nb q => by rw [upd_ne fun z => nb (by rw [z]; exact aA)]; exact q
  obtain ⟨o3, kp, bk⟩ := o2.put (w' := .lst (ds.take j ++ [pp] ++ ds.drop j)) (u := .lst (xs.take j ++ [w] ++ xs.drop j)) hi h1 h4 g2 ⟨_, upd_same, (((h3'.take j).append (.cons x2 .nil)).append (h3'.drop j)).keep k2⟩
  exact ⟨a, xs, (j : Int), w, rfl, rfl, ha, by rw [h3.len]; exact hz, by omega, by omega, nx σ A _ ⟨sl.set i (.own (.lst (ds.take j ++ [pp] ++ ds.drop j))), m⟩ q (fun b u nb w => kp b u nb ((e1.trans e2) b u (fun z => nb (.inl z)) w)) (fun b z => .inl (bk b z)) o3⟩⟩
/-- dict(a list of pairs) -/
def rDictP (K : PySem.W.Frag) : List V → Hp → VK → Prop := fun xs H Q => ∃ (a : Addr) (ps : List Addr) (kvs : List (Key × V)), xs = [.ref a] ∧ SqL K H a (ps.map V.ref) ∧ Paired (fun p kv => SqT K H p [kV kv.1, kv.2]) ps kvs ∧
    ∀ p, H p = none → Q (.ref p) (upd H p (.dK (mergeK [] kvs)))
theorem dictK {X : Cx} (hK : X.K = K) (hc : X.calm = true) : CallR X (.type "dict") (rDictP K) := hK ▸ call_dictP hc
def pairsP (ds : List (Key × PyData)) : List PyData := ds.map fun kp => .tuple [lab kp.1, kp.2]
def mergeP (acc : List (Key × PyData)) (ds : List (Key × PyData)) : List (Key × PyData) := ds.foldl (fun a kp => putP a kp.1 kp.2) acc
theorem pairs_at {S : Addr → Prop} : ∀ {xs : List V} {ds : List (Key × PyData)}, DaL K S H xs (pairsP ds) → ∃ (ps : List Addr) (kvs : List (Key × V)), xs = ps.map V.ref ∧ Paired (fun p (kv : Key × V) => SqT K H p [kV kv.1, kv.2]) ps kvs ∧ KvR K S H kvs ds
  | [], [], _ => ⟨[], [], rfl, .nil, True.intro⟩
  | _ :: _, [], h => by cases h
  | [], _ :: _, h => by cases h
  | x :: xs, (k, p) :: ds, h => by
    cases h with
    | cons a b =>
      obtain ⟨ps, kvs, rfl, h2, h3⟩ := pairs_at (ds := ds) b
      obtain ⟨q, ys, rfl, hs, t⟩ := Da.tuple_at a
      cases t with
      | cons y1 t =>
        cases t with
        | cons y2 t =>
          cases t
          have e1 : ∀ {v : V}, Da K S H v (lab k) → v = kV k := fun {v} y => by
            cases k with
            | inl i => exact Da.int_eq y
            | inr s => exact Da.str_eq y
          have := e1 y1
          subst this
          exact ⟨q :: ps, (k, _) :: kvs, rfl, .cons hs h2, rfl, y2, h3⟩
theorem KvR.merge {S : Addr → Prop} : ∀ {kvs : List (Key × V)} {ds : List (Key × PyData)} {ka : List (Key × V)} {da : List (Key × PyData)}, KvR K S H kvs ds → KvR K S H ka da → KvR K S H (mergeK ka kvs) (mergeP da ds)
  | [], [], _, _, _, t => t
  | (x, v) :: r, (y, d) :: s, ka, da, ⟨e, h, t⟩, u => by
    subst e
    exact KvR.merge (ka := putK ka x v) (da := putP da x d) t (KvR.put h u)
  | [], _ :: _, _, _, h, _ => h.elim
  | _ :: _, [], _, _, h, _ => h.elim
theorem cw_dictP {ds : List D} (hK : K = c.K) (h : One ds fun d => ∃ kp, d = .py (.list (pairsP kp)) ∧ Φ (.dct (mergeP [] kp)) n) : Cw c (rDictP K) ds n Φ := ⟨fun A H vs a x Q k => by
  subst hK
  obtain ⟨v, d, rfl, x, kp, rfl, q⟩ := one_of h x
  obtain ⟨b, xs, rfl, hs, t⟩ := Da.list_at x
  obtain ⟨ps, kvs, rfl, h2, h3⟩ := pairs_at t
  refine ⟨b, ps, kvs, rfl, hs, h2, fun p hp => ?_⟩
  have nA : ¬ A p := fun z => a.al p z hp
  have kn : Kept A H (upd H p (.dK (mergeK [] kvs))) := fun b u nb q => by rw [upd_ne (ne_of_none q hp)]; exact q
  exact k _ _ _ n q (Ek.new hp) (a.good.new hp) ⟨p, _, rfl, nA, upd_same, (KvR.merge (ka := []) (da := []) h3 True.intro).keep kn⟩⟩
/-- i, j, k = a value, a new object, a value, over a triple that is laid -/
def tTup3O (K : PySem.W.Frag) (i j l : Nat) (ta tb tc : TE) : TS := tAsg (tTup (tCons ta (tCons tb (tCons tc tNil)))) (gTup K 3 (gCons (gName i) (gCons (gName j) (gCons (gName l) gNil))))
theorem ps_tup3O {X : Cx} {st : Stmt} {i j l : Nat} {ta tb tc : TE} (h : PS X st (tAsg (tTup (tCons ta (tCons tb (tCons tc tNil)))) (gTup K 3 (gCons (gName i) (gCons (gName j) (gCons (gName l) gNil)))))) : PS X st (tTup3O K i j l ta tb tc) := h
theorem ws_tup3O {i j l : Nat} (hK : K = c.K) (h : Wp c te ⟨sl, nn⟩ fun d m => d.nm = true ∧ Wn c tb ⟨sl, m⟩ fun w n => Wp c tc ⟨sl, n⟩ fun u n2 => u.nm = true ∧ P.nx ⟨((sl.set i (.val d)).set j (.own w)).set l (.val u), n2⟩) (hi : i < sl.length) (hj : j < sl.length) (hl : l < sl.length) :
    Ws c (tTup3O K i j l te tb tc) ⟨sl, nn⟩ P := ⟨fun σ A H o Dn nx _ _ _ => by
  subst hK
  refine h.run σ A H o _ fun v H1 d m p e1 g1 x => ?_
  obtain ⟨nm, p⟩ := p
  have o1 := o.keep e1 g1
  refine p.run σ A H1 o1 _ fun r H2 w n q e2 g2 hr t => ?_
  have o2 : Ok c (fun a => A a ∨ a = r) H2 σ ⟨sl, n⟩ := by
    have o' := o1.set_own e2 g2 hr t hj
    exact ⟨o.len, g2, fun a z => .inl (o.sub a z), o'.al, fun j u h => by
      obtain ⟨nm, w, h3, h4⟩ := o1.val j u h
      exact ⟨nm, w, h3, (h4.apart hr).keep e2 fun a z => .inl (o.k a z)⟩, fun j es h => by
      obtain ⟨b, h3, h5, h6⟩ := o1.own j es h
      exact ⟨b, h3, (h5.apart hr).keep (Ek.kept e2 fun a z => .inl (o.k a z)) fun u r => e2 b u (fun z => h6 (c.hk b z)) r, h6⟩, o.sep⟩
  refine q.run σ _ H2 o2 _ fun u H3 d3 n3 q e3 g3 x3 => ?_
  obtain ⟨nm3, q⟩ := q
  refine ⟨by show 3 ≤ sizeLine; decide, fun y hy => ?_⟩
  have e4 : Ek c H3 (upd H3 y (.tup [v, .ref r, u])) := Ek.new hy
  have g4 : Good c n3 (upd H3 y (.tup [v, .ref r, u])) := g3.new hy
  have e34 := e3.trans e4
  have t4 : OwAt c.K (fun a => A a ∨ a = r) (upd H3 y (.tup [v, .ref r, u])) r w := t.keep (Ek.kept e34 fun a z => .inl (o.k a z)) fun u z => e34 r u (fun q => o1.good.al r (c.hk r q) hr) z
  have p2 := o1.set_ (i := i) hi nm x
  have p3 := p2.set_own (i := j) (e2.trans e34) g4 hr t4 (by show j < (sl.set i _).length; rw [List.length_set]; exact hj)
  have p4 := p3.set_ (i := l) (v := u) (by show l < ((sl.set i _).set j _).length; rw [List.length_set, List.length_set]; exact hl) nm3 (x3.keep e4 fun a z => .inl (o.k a z))
  refine ⟨y, [v, .ref r, u], rfl, .inl (.inl upd_same), rfl, v, [.ref r, u], rfl, ⟨.ref r, [u], rfl, ⟨u, [], rfl, ⟨rfl, nx _ _ _ ⟨((sl.set i (.val d)).set j (.own w)).set l (.val d3), n3⟩ q (Kp.ek (e1.trans (e2.trans e34))) (fun a z => ?_) p4⟩⟩⟩⟩
  have z := own_set (e := ⟨(sl.set i (.val d)).set j (.own w), n3⟩) z
  obtain ⟨k, es, h3, h4⟩ := z
  by_cases rj : j = k
  · subst rj
    rw [List.getElem?_set_self (by rw [List.length_set, o.len]; exact hj)] at h4
    cases h4
    exact .inr (fresh_of e1 g1 hr)
  · rw [List.getElem?_set_ne rj] at h4
    have h3' : (sl.set i (.val d))[k]? = some (Slo.own es) := by rw [← List.getElem?_set_ne rj]; exact h3
    exact .inl (own_set (e := ⟨sl, nn⟩) ⟨k, es, h3', h4⟩)⟩
end
end Wx

/-! ### part Xv -/
set_option Elab.async false
set_option linter.all false
set_option maxRecDepth 100000
set_option maxHeartbeats 1000000
set_option autoImplicit false
/-! Dict comprehensions. -/
namespace Wx
open PySem L2
section
variable {c : Cy}
theorem wn_dc {sl : List Slo} {nn : Nat} {wi : TI} {g : TG} {tt : TT} {tk tv : TE} {vs : List Nat} {Ψ : Ow → Nat → Prop} (hv : ∀ v ∈ vs, v < sl.length)
    (h : Wi c false wi ⟨sl, nn⟩ fun its n => ∃ I : Nat → List (Key × PyData) → Nat → Prop, I 0 [] n ∧ its.length < 10000000 ∧
      (∀ i acc m d, its[i]? = some d → I i acc m → Wg c g vs d ⟨wipeE sl vs, m⟩ fun e2 => Wt c tt e2 fun b m2 => (b = true → Wp c tk ⟨e2.sl, m2⟩ fun d' m3 => KeyD d' fun k => Wp c tv ⟨e2.sl, m3⟩ fun d2 m4 => ∃ p, d2 = .py p ∧ I (i + 1) (putP acc k p) m4) ∧ (b = false → I (i + 1) acc m2)) ∧
      ∀ acc m, I its.length acc m → Ψ (.dct acc) m) : Wn c (tDc wi g tt tk tv vs) ⟨sl, nn⟩ Ψ := ⟨fun σ A H o Q k => by
  refine h.run σ A H o _ fun J H1 its n p e1 g1 gv D hD => ?_
  obtain ⟨I, i0, il, is, iz⟩ := p
  have o1 := o.keep e1 g1
  have nSD : ¬ c.S0 D := fun z => o1.good.al D z hD
  have oD : ∀ (m : Nat), Good c m H1 → Ok c (fun a => A a ∨ a = D) (upd H1 D (.dK [])) (wipe σ vs) ⟨wipeE sl vs, m⟩ := fun m gm => by
    have ow := (o1.keep (n := m) Ek.refl gm).wipes (vs := vs) hv
    refine ⟨ow.len, gm.new hD, fun a z => .inl (ow.sub a z), fun a z => ?_, fun i d z => ?_, fun i ds z => ?_, ow.sep⟩
    · by_cases q : a = D
      · rw [q, upd_same]; exact fun w => nomatch w
      · rw [upd_ne q]; exact ow.al a (z.elim id fun w => absurd w q)
    · obtain ⟨nm, v, h1, h2⟩ := ow.val i d z
      exact ⟨nm, v, h1, (h2.apart hD).keep (Ek.new hD) fun a w => .inl (o.k a w)⟩
    · obtain ⟨b, h1, h3, h4⟩ := ow.own i ds z
      exact ⟨b, h1, (h3.apart hD).keep (Ek.kept (Ek.new hD) fun a w => .inl (o.k a w)) fun u r => by rw [upd_ne (ne_of_none r hD)]; exact r, h4⟩
  have nown : ∀ (j : Nat) (es : Ow), (wipeE sl vs)[j]? = some (Slo.own es) → (wipe σ vs)[j]? = some (some (V.ref D)) → False := fun j es z1 z2 => by
    have ob : ownA σ sl D := wipe_own (e := ⟨sl, nn⟩) ⟨j, es, z1, z2⟩
    exact o1.al D (o.sub D (.inr ob)) hD
  refine ⟨fun i m H' => m = its.length - i ∧ i ≤ its.length ∧ ∃ acc xs nn, I i acc nn ∧ acc.length ≤ i ∧ H' D = some (.dK xs) ∧ KvR c.K (fun a => A a ∨ a = D) H' xs acc ∧ Ok c (fun a => A a ∨ a = D) H' (wipe σ vs) ⟨wipeE sl vs, nn⟩ ∧ Ek c H1 H' ∧ Good c nn H',
    ⟨its.length, rfl, Nat.zero_le _, [], [], n, i0, Nat.le_refl _, upd_same, True.intro, oD n g1, Ek.new hD, g1.new hD⟩, ?_⟩
  rintro i m H' ⟨rfl, hi, acc, xs, nn, hI, hac, hDx, t, o', ek, gn⟩
  have hM : Kept (Mm c false σ ⟨sl, nn⟩) H1 H' := ek.mono fun a z => .inl z
  by_cases hl : i < its.length
  · right
    refine ⟨gv.go H' i hM hl, fun H2 => i + 1 ≤ its.length ∧ ∃ acc xs nn, I (i + 1) acc nn ∧ acc.length ≤ i + 1 ∧ H2 D = some (.dK xs) ∧ KvR c.K (fun a => A a ∨ a = D) H2 xs acc ∧ Ok c (fun a => A a ∨ a = D) H2 (wipe σ vs) ⟨wipeE sl vs, nn⟩ ∧ Ek c H1 H2 ∧ Good c nn H2,
      fun H2 ⟨q1, q2⟩ => ⟨its.length - (i + 1), by omega, rfl, q1, q2⟩, fun x H'' y => ?_⟩
    obtain ⟨d, hd, st, dx⟩ := gv.yld H' i x H'' hM hl y
    have ks : Ek c H' H'' := st.kept
    have gs : Good c nn H'' := st.good gn
    have o2 := o'.keep ks gs
    have dd := dx (fun a => A a ∨ a = D) (fun a z => z.elim .inl fun q => .inr (by rw [q]; exact hD)) o'.al fun a z => .inl (o.sub a (.inl z))
    refine (is i acc nn d hd hI).run _ _ H'' x o2 dd _ fun σ2 e2 wt o3 ap wo => ?_
    refine ⟨wipe_apt ap, wt.run σ2 _ H'' o3 _ fun b H3 m2 p2 e3 g3 => ?_⟩
    have o4 := o3.keep e3 g3
    have nD : c.k ≠ some D := fun z => o1.al D (o.k D z) hD
    have d3 : H3 D = some (.dK xs) := e3 D _ nD (ks D _ nD hDx)
    have back : ∀ {H4 : Hp} {m3 : Nat}, Ek c H'' H4 → Good c m3 H4 → Ok c (fun a => A a ∨ a = D) H4 (wipe σ vs) ⟨wipeE sl vs, m3⟩ := fun {H4 m3} ee gg => (o2.keep ee gg)
    cases b with
    | false =>
      refine iteF ⟨hl, acc, xs, m2, p2.2 rfl, by omega, d3, (t.keep (Ek.kept ks o'.k)).keep (Ek.kept e3 o'.k), back e3 g3, (ek.trans ks).trans e3, g3⟩
    | true =>
      refine iteT ((p2.1 rfl).run σ2 _ H3 o4 _ fun v H4 d' m3 p3 e4 g4 xv => ?_)
      obtain ⟨ky, rfl, p3⟩ := key_of p3 xv
      refine p3.run σ2 _ H4 (o4.keep e4 g4) _ fun w H5 d2 m5 p5 e5 g5 xw => ?_
      obtain ⟨pp, rfl, p5⟩ := p5
      have d5 : H5 D = some (.dK xs) := e5 D _ nD (e4 D _ nD d3)
      have tx : KvR c.K (fun a => A a ∨ a = D) H5 xs acc := (((t.keep (Ek.kept ks o'.k)).keep (Ek.kept e3 o'.k)).keep (Ek.kept e4 o'.k)).keep (Ek.kept e5 o'.k)
      have kA : Kept (fun a => A a ∨ a = D) H5 (upd H5 D (.dK (putK xs ky w))) := fun a u nn q => by rw [upd_ne fun z => nn (.inr z)]; exact q
      have o5 := back ((e3.trans e4).trans e5) g5
      have o6 := o5.updD (u := .dK (putK xs ky w)) (.inr rfl) nSD nown
      have pl := putP_len acc ky pp
      refine ⟨xs, ky, rfl, d5, by rw [tx.len]; exact Nat.lt_of_le_of_lt hac (Nat.lt_of_lt_of_le (Nat.lt_trans hl il) (by decide)), hl, putP acc ky pp, putK xs ky w, m5, p5, by omega, upd_same, (KvR.put xw tx).keep kA, o6, ?_, o6.good⟩
      refine fun a u nn q => ?_
      rw [upd_ne (ne_of_none q hD)]
      exact e5 a u nn (e4 a u nn (e3 a u nn (ks a u nn (ek a u nn q))))
  · left
    have q : i = its.length := by omega
    subst q
    exact ⟨gv.stop H' _ hM (Nat.le_refl _), k D H' _ nn (iz acc nn hI) (e1.trans ek) gn (fresh_of e1 g1 hD) ⟨xs, hDx, t⟩⟩⟩
theorem enumK {X : Cx} {K : PySem.W.Frag} {e : Expr} {ta : TA} {p pos tpos : Pos} {elts : List Expr} {kk : Nat} (hK : X.K = K) (hg : Gl X "enumerate") (hm : X.mg "enumerate" = none) (ha : PA X [e] ta) (hs : starEach [e] X.env = [(false, eval e X.env)] := by rfl) :
    PI X (.Tuple elts kk tpos) (.Call (.Name "enumerate" p) [e] [] pos) (iEnumT K ta) := hK ▸ pi_enumT hg hm ha hs
def keysD (ds : List (Key × PyData)) : List D := ds.map fun kp => D.py (lab kp.1)
theorem wi_keys {m : Bool} {td : TE} {sl : List Slo} {nn : Nat} {Θ : List D → Nat → Prop} (h : Wp c td ⟨sl, nn⟩ fun d n => ∃ ds, d = .dcl ds ∧ Θ (keysD ds) n) : Wi c m (iKeys td) ⟨sl, nn⟩ Θ := ⟨fun σ A H o R k => by
  refine h.run σ A H o _ fun v H1 d n p e1 g1 x => ?_
  obtain ⟨ds, rfl, q⟩ := p
  obtain ⟨a, kvs, od, rfl, na, hd, t⟩ := x
  have st : ∀ H', Kept (Mm c m σ ⟨sl, nn⟩) H1 H' → H' a = some (.frz od (.dK kvs)) := fun H' kk => (kk.mono fun a z => Mm.sub o a z) a _ na hd
  have lk := t.len
  have ld : (keysD ds).length = ds.length := List.length_map _
  refine ⟨a, od, rfl, .inl ⟨kvs, hd, k _ H1 _ n q e1 g1 ⟨fun H' i kk hi => ⟨st H' kk, by omega⟩, fun H' i kk hi => ⟨st H' kk, by omega⟩, fun H' i z H'' kk hi y => ?_⟩⟩⟩
  obtain ⟨rfl, ky, x', hk, rfl⟩ := y
  obtain ⟨p1, h1, d1⟩ := t.item hk
  exact ⟨.py (lab ky), by unfold keysD; rw [List.getElem?_map, h1]; rfl, .inl rfl, fun B w w2 _ => kV_lab ky⟩⟩
end
end Wx

/-! ### part Xp -/
set_option Elab.async false
set_option linter.all false
set_option maxRecDepth 100000
set_option maxHeartbeats 1000000
set_option autoImplicit false
/-! The plain law of the fewest instructions. -/
namespace Wx
open PySem L2
/-! ## tallies -/
def dI (xs : List (Key × Int)) : List (Key × PyData) := xs.map fun p => (p.1, .int p.2)
def getI (xs : List (Key × Int)) (k : Key) : Option Int := (xs.find? fun kv => decide (kv.1 = k)).map (·.2)
def putI (xs : List (Key × Int)) (k : Key) (v : Int) : List (Key × Int) :=
  if (xs.any fun kv => decide (kv.1 = k)) = true then xs.map (fun kv => if kv.1 = k then (kv.1, v) else kv) else xs ++ [(k, v)]
def cnt (xs : List (Key × Int)) (k : Key) : Int := (getI xs k).getD 0
theorem valP_dI (k : Key) : ∀ xs : List (Key × Int), valP (dI xs) k = (getI xs k).map PyData.int
  | [] => rfl
  | p :: r => by
    have ih := valP_dI k r
    by_cases e : p.1 = k
    · have h1 : valP (dI (p :: r)) k = some (.int p.2) := valP_pos (p := (p.1, .int p.2)) e
      have h2 : getI (p :: r) k = some p.2 := by simp [getI, List.find?_cons, e]
      rw [h1, h2]
      rfl
    · have h1 : valP (dI (p :: r)) k = valP (dI r) k := valP_neg (p := (p.1, .int p.2)) e
      have h2 : getI (p :: r) k = getI r k := by simp [getI, List.find?_cons, e]
      rw [h1, h2, ih]
theorem getD_dI (xs : List (Key × Int)) (k : Key) : (valP (dI xs) k).getD (.int 0) = .int (cnt xs k) := by
  rw [valP_dI]
  unfold cnt
  cases getI xs k <;> rfl
theorem putP_dI (xs : List (Key × Int)) (k : Key) (v : Int) : putP (dI xs) k (.int v) = dI (putI xs k v) := by
  unfold putP putI
  have h : ((dI xs).any fun kv => decide (kv.1 = k)) = (xs.any fun kv => decide (kv.1 = k)) := by
    unfold dI
    rw [List.any_map]
    rfl
  rw [h]
  split
  · unfold dI
    rw [List.map_map, List.map_map]
    refine List.map_congr_left fun p _ => ?_
    simp only [Function.comp]
    split <;> rfl
  · unfold dI
    rw [List.map_append]
    rfl
theorem dI_len (xs : List (Key × Int)) : (dI xs).length = xs.length := List.length_map _
theorem getI_put (xs : List (Key × Int)) (k j : Key) (v : Int) : getI (putI xs k v) j = if j = k then some v else getI xs j := by
  have h := valP_put (dI xs) k j (.int v)
  rw [putP_dI, valP_dI, valP_dI] at h
  by_cases e : j = k
  · rw [if_pos e] at h ⊢
    cases q : getI (putI xs k v) j with
    | none => rw [q] at h; cases h
    | some x => rw [q] at h; cases h; rfl
  · rw [if_neg e] at h ⊢
    cases q : getI (putI xs k v) j with
    | none =>
      rw [q] at h
      cases q2 : getI xs j with
      | none => rfl
      | some y => rw [q2] at h; cases h
    | some x =>
      rw [q] at h
      cases q2 : getI xs j with
      | none => rw [q2] at h; cases h
      | some y => rw [q2] at h; cases h; rfl
def tal (l : List Key) : List (Key × Int) := l.foldl (fun xs k => putI xs k (cnt xs k + 1)) []
theorem tal_snoc (l : List Key) (a : Key) : tal (l ++ [a]) = putI (tal l) a (cnt (tal l) a + 1) := by unfold tal; rw [List.foldl_append]; rfl
theorem putI_len (xs : List (Key × Int)) (k : Key) (v : Int) : (putI xs k v).length ≤ xs.length + 1 := by
  unfold putI
  split
  · rw [List.length_map]; omega
  · rw [List.length_append]; exact Nat.le_refl _
theorem snoc_ind {α : Type} {p : List α → Prop} (h0 : p []) (h1 : ∀ l a, p l → p (l ++ [a])) (l : List α) : p l := by
  have w : ∀ l : List α, p l.reverse := fun l => by
    induction l with
    | nil => exact h0
    | cons a l ih => rw [List.reverse_cons]; exact h1 _ _ ih
  have := w l.reverse
  rwa [List.reverse_reverse] at this
theorem tal_len (l : List Key) : (tal l).length ≤ l.length := by
  refine snoc_ind (p := fun l => (tal l).length ≤ l.length) (Nat.le_refl _) (fun l a ih => ?_) l
  rw [tal_snoc, List.length_append]
  have := putI_len (tal l) a (cnt (tal l) a + 1)
  show _ ≤ l.length + 1
  omega
def cntL (l : List Key) (k : Key) : Nat := (l.filter fun x => decide (x = k)).length
theorem cnt_tal (k : Key) (l : List Key) : cnt (tal l) k = cntL l k := by
  refine snoc_ind (p := fun l => cnt (tal l) k = cntL l k) rfl (fun l a ih => ?_) l
  rw [tal_snoc]
  unfold cnt cntL at *
  rw [getI_put, List.filter_append, List.length_append]
  by_cases e : k = a
  · subst e
    rw [if_pos rfl, List.filter_cons_of_pos (by simp)]
    simp only [Option.getD_some, List.filter_nil, List.length_singleton]
    rw [ih]
    omega
  · rw [if_neg e, List.filter_cons_of_neg (by simpa using fun z : a = k => e z.symm), ih]
    simp
theorem getI_mem {xs : List (Key × Int)} {k : Key} {n : Int} (h : getI xs k = some n) : (k, n) ∈ xs := by
  unfold getI at h
  cases q : xs.find? fun kv => decide (kv.1 = k) with
  | none => rw [q] at h; cases h
  | some p =>
    rw [q] at h
    have h1 := List.mem_of_find?_eq_some q
    have h2 := List.find?_some q
    have h3 : p.1 = k := of_decide_eq_true h2
    have h4 : p.2 = n := Option.some.inj h
    rw [← h3, ← h4]
    exact h1
theorem putI_keys (xs : List (Key × Int)) (k : Key) (v : Int) (h : (xs.map Prod.fst).Nodup) : ((putI xs k v).map Prod.fst).Nodup := by
  unfold putI
  split
  · have e : (xs.map fun kv => if kv.1 = k then (kv.1, v) else kv).map Prod.fst = xs.map Prod.fst := by
      rw [List.map_map]
      refine List.map_congr_left fun p _ => ?_
      simp only [Function.comp]
      split <;> rfl
    rw [e]
    exact h
  · rename_i q
    rw [List.map_append]
    refine List.nodup_append.mpr ⟨h, by simp, fun a ha b hb e => ?_⟩
    have hb' : b = k := by simpa using hb
    obtain ⟨p, hp, rfl⟩ := List.mem_map.mp ha
    exact q (List.any_eq_true.mpr ⟨p, hp, decide_eq_true (by rw [e, hb'])⟩)
theorem tal_keys (l : List Key) : ((tal l).map Prod.fst).Nodup := by
  refine snoc_ind (p := fun l => ((tal l).map Prod.fst).Nodup) List.nodup_nil (fun l a ih => ?_) l
  rw [tal_snoc]
  exact putI_keys _ _ _ ih
theorem mem_getI {xs : List (Key × Int)} {k : Key} {n : Int} (hn : (xs.map Prod.fst).Nodup) (h : (k, n) ∈ xs) : getI xs k = some n := by
  induction xs with
  | nil => cases h
  | cons p r ih =>
    rw [List.map_cons, List.nodup_cons] at hn
    rcases List.mem_cons.mp h with e | e
    · subst e
      simp [getI, List.find?_cons]
    · have ne : ¬ p.1 = k := fun q => hn.1 (by rw [q]; exact List.mem_map.mpr ⟨_, e, rfl⟩)
      have h2 : getI (p :: r) k = getI r k := by simp [getI, List.find?_cons, ne]
      rw [h2]
      exact ih hn.2 e
/-! ## the number -/
def mx0 (x : Int) : Int := if x > 0 then x else 0
def spareF (left goal : List Key) : Int := ((tal left).map fun p => mx0 (p.2 - cnt (tal goal) p.1)).sum
def standF (goal left : List Key) : Nat := left.foldl (fun s k => if goal[s]? = some k then s + 1 else s) 0
theorem stand_snoc (goal left : List Key) (a : Key) : standF goal (left ++ [a]) = if goal[standF goal left]? = some a then standF goal left + 1 else standF goal left := by unfold standF; rw [List.foldl_append]; rfl
def numF (pl goal : List Key) (k : Nat) : Int := k + (2 * spareF (pl.take (pl.length - k)) goal + goal.length - standF goal (pl.take (pl.length - k)))
def isStr : Key → Bool
  | .inl _ => false
  | .inr _ => true
def okF (pl goal : List Key) (k : Nat) : Bool := (goal.filter isStr).all fun x => decide (x ∈ pl.take (pl.length - k))
def bestF (pl goal : List Key) : Nat → Option Int
  | 0 => none
  | k + 1 => if okF pl goal k = true then some (match bestF pl goal k with | none => numF pl goal k | some b => if numF pl goal k < b then numF pl goal k else b) else bestF pl goal k
def dueF (pl goal : List Key) : Option Int := bestF pl goal (pl.length + 1)
theorem stand_sub (goal left : List Key) : standF goal left ≤ goal.length ∧ (goal.take (standF goal left)).Sublist left := by
  refine snoc_ind (p := fun left => standF goal left ≤ goal.length ∧ (goal.take (standF goal left)).Sublist left) ⟨Nat.zero_le _, by unfold standF; simp⟩ (fun l a ih => ?_) left
  rw [stand_snoc]
  obtain ⟨h1, h2⟩ := ih
  by_cases e : goal[standF goal l]? = some a
  · rw [if_pos e]
    have lt := (List.getElem?_eq_some_iff.mp e).1
    refine ⟨by omega, ?_⟩
    rw [List.take_add_one, e]
    exact h2.append (List.Sublist.refl _)
  · rw [if_neg e]
    exact ⟨h1, h2.trans (List.sublist_append_left _ _)⟩
theorem mx0_nn (x : Int) : 0 ≤ mx0 x := by unfold mx0; split <;> omega
theorem sum_nn : ∀ {xs : List Int}, (∀ x ∈ xs, 0 ≤ x) → 0 ≤ xs.sum ∧ (xs.sum = 0 → ∀ x ∈ xs, x = 0)
  | [], _ => ⟨by simp, fun _ x h => nomatch h⟩
  | y :: ys, h => by
    obtain ⟨h1, h2⟩ := sum_nn (xs := ys) fun x hx => h x (List.mem_cons_of_mem _ hx)
    have hy := h y List.mem_cons_self
    rw [List.sum_cons]
    refine ⟨by omega, fun e x hx => ?_⟩
    rcases List.mem_cons.mp hx with rfl | hx
    · omega
    · exact h2 (by omega) x hx
theorem spare_nn (left goal : List Key) : 0 ≤ spareF left goal := (sum_nn fun x hx => by
  obtain ⟨p, _, rfl⟩ := List.mem_map.mp hx
  exact mx0_nn _).1
theorem spare_zero {left goal : List Key} (h : spareF left goal = 0) (k : Key) : cntL left k ≤ cntL goal k := by
  have hz := (sum_nn (xs := (tal left).map fun p => mx0 (p.2 - cnt (tal goal) p.1)) fun x hx => by
    obtain ⟨p, _, rfl⟩ := List.mem_map.mp hx
    exact mx0_nn _).2 (by unfold spareF at h; exact h)
  have e1 := cnt_tal k left
  have e2 := cnt_tal k goal
  cases q : getI (tal left) k with
  | none =>
    unfold cnt at e1
    rw [q] at e1
    have : (0 : Int) = cntL left k := e1
    omega
  | some n =>
    have := hz _ (List.mem_map.mpr ⟨_, getI_mem q, rfl⟩)
    unfold cnt at e1
    rw [q] at e1
    have e3 : n = cntL left k := e1
    dsimp only at this
    rw [e2, e3] at this
    unfold mx0 at this
    split at this <;> omega
theorem spare_self (l : List Key) : spareF l l = 0 := by
  unfold spareF
  have w : ∀ xs : List Int, (∀ x ∈ xs, x = 0) → xs.sum = 0 := fun xs => by
    induction xs with
    | nil => intro _; rfl
    | cons y ys ih => intro h; rw [List.sum_cons, h y List.mem_cons_self, ih fun x hx => h x (List.mem_cons_of_mem _ hx)]; rfl
  refine w _ fun x hx => ?_
  obtain ⟨p, hp, rfl⟩ := List.mem_map.mp hx
  have := mem_getI (tal_keys l) hp
  unfold cnt
  rw [this]
  simp [mx0]
theorem stand_self (l : List Key) : standF l l = l.length := by
  have w : ∀ (r p : List Key), p ++ r = l → standF l p = p.length := fun r p => by
    refine snoc_ind (p := fun p => ∀ r, p ++ r = l → standF l p = p.length) (fun r _ => rfl) (fun p a ih r h => ?_) p r
    have h' : p ++ (a :: r) = l := by rw [← h]; simp
    have e := ih _ h'
    have g : l[p.length]? = some a := by rw [← h', List.getElem?_append_right (Nat.le_refl _)]; simp
    rw [stand_snoc, e, if_pos g, List.length_append]
    rfl
  exact w [] l (List.append_nil l)
theorem sub_eq : ∀ {g p : List Key}, g.Sublist p → (∀ k, cntL p k ≤ cntL g k) → p = g := fun {g p} h hc => by
  have hl : ∀ {g p : List Key}, g.Sublist p → ∀ k, cntL g k ≤ cntL p k := fun {g p} h k => (h.filter _).length_le
  induction h with
  | slnil => rfl
  | @cons l₁ l₂ a h ih =>
    have h1 := hc a
    have h2 := hl h a
    unfold cntL at h1 h2
    rw [List.filter_cons_of_pos (by simp), List.length_cons] at h1
    omega
  | @cons_cons l₁ l₂ a h ih =>
    refine congrArg (a :: ·) (ih fun k => ?_)
    have h1 := hc k
    unfold cntL at h1 ⊢
    by_cases e : a = k
    · rw [List.filter_cons_of_pos (by simpa using e), List.filter_cons_of_pos (by simpa using e), List.length_cons, List.length_cons] at h1
      omega
    · rw [List.filter_cons_of_neg (by simpa using e), List.filter_cons_of_neg (by simpa using e)] at h1
      exact h1
theorem num_nn (pl goal : List Key) (k : Nat) : 0 ≤ numF pl goal k := by
  unfold numF
  have h1 := spare_nn (pl.take (pl.length - k)) goal
  have h2 := (stand_sub goal (pl.take (pl.length - k))).1
  omega
theorem best_zero (pl goal : List Key) : ∀ n : Nat, (∀ b, bestF pl goal n = some b → 0 ≤ b) ∧ (bestF pl goal n = some 0 ↔ ∃ k, k < n ∧ okF pl goal k = true ∧ numF pl goal k = 0)
  | 0 => ⟨fun b h => (nomatch h), ⟨fun h => (nomatch h), fun ⟨k, h, _⟩ => absurd h (Nat.not_lt_zero k)⟩⟩
  | n + 1 => by
    obtain ⟨h1, h2⟩ := best_zero pl goal n
    have hn := num_nn pl goal n
    by_cases o : okF pl goal n = true
    · have e : bestF pl goal (n + 1) = some (match bestF pl goal n with | none => numF pl goal n | some b => if numF pl goal n < b then numF pl goal n else b) := if_pos o
      rw [e]
      cases q : bestF pl goal n with
      | none =>
        rw [q] at h2
        refine ⟨fun b hb => by cases hb; exact hn, ⟨fun h => ⟨n, Nat.lt_succ_self n, o, Option.some.inj h⟩, fun ⟨k, hk, ok, hz⟩ => ?_⟩⟩
        by_cases e2 : k = n
        · subst e2; show some _ = _; rw [hz]
        · exact nomatch (h2.mpr ⟨k, by omega, ok, hz⟩)
      | some b =>
        rw [q] at h1 h2
        have hb := h1 b rfl
        dsimp only
        refine ⟨fun c hc => by cases hc; split <;> omega, ⟨fun h => ?_, fun ⟨k, hk, ok, hz⟩ => ?_⟩⟩
        · have h := Option.some.inj h
          by_cases l : numF pl goal n < b
          · rw [if_pos l] at h
            exact ⟨n, Nat.lt_succ_self n, o, h⟩
          · rw [if_neg l] at h
            obtain ⟨k, hk, r⟩ := h2.mp (by rw [h])
            exact ⟨k, by omega, r⟩
        · by_cases e2 : k = n
          · subst e2
            congr 1
            split <;> omega
          · have hb0 := Option.some.inj (h2.mpr ⟨k, by omega, ok, hz⟩)
            congr 1
            split <;> omega
    · have e : bestF pl goal (n + 1) = bestF pl goal n := if_neg o
      rw [e]
      refine ⟨h1, h2.trans ⟨fun ⟨k, hk, r⟩ => ⟨k, by omega, r⟩, fun ⟨k, hk, ok, hz⟩ => ⟨k, ?_, ok, hz⟩⟩⟩
      by_cases e2 : k = n
      · subst e2; exact absurd ok o
      · omega
/-- nothing is to be done exactly if the goal is there -/
theorem due_zero (pl goal : List Key) : dueF pl goal = some 0 ↔ pl = goal := by
  unfold dueF
  rw [(best_zero pl goal _).2]
  constructor
  · rintro ⟨k, hk, ok, hz⟩
    have h1 := spare_nn (pl.take (pl.length - k)) goal
    have h2 := stand_sub goal (pl.take (pl.length - k))
    unfold numF at hz
    have k0 : k = 0 := by omega
    subst k0
    rw [Nat.sub_zero, List.take_length] at h1 h2 hz
    have hs : standF goal pl = goal.length := by omega
    rw [hs, List.take_length] at h2
    exact sub_eq h2.2 (spare_zero (by omega))
  · rintro rfl
    refine ⟨0, Nat.succ_pos _, ?_, ?_⟩
    · unfold okF
      rw [List.all_eq_true]
      intro x hx
      rw [Nat.sub_zero, List.take_length]
      exact decide_eq_true ((List.mem_filter.mp hx).1)
    · unfold numF
      rw [Nat.sub_zero, List.take_length, spare_self, stand_self]
      omega
end Wx

/-! ### part T0 -/
set_option Elab.async false
set_option linter.all false
set_option maxRecDepth 100000
set_option maxHeartbeats 1000000
set_option autoImplicit false
/-! The texts of instructions. -/
namespace Wx
open PySem L2
/-- a number as a text -/
def txN (n : Nat) : Str := Str.ofString (toString ((n : Nat) : Int))
theorem txN_cps (n : Nat) : (txN n).cps.toList = TL.numL n := TL.tl_num n
theorem txN_len (n : Nat) : (txN n).length = (TL.numL n).length := by
  rw [← txN_cps]
  exact (Array.length_toList).symm
theorem txN_pos (n : Nat) : 1 ≤ (txN n).length := by
  rw [txN_len]
  exact List.length_pos_iff.mpr (TL.numL_ne n)
theorem txN_le {n k : Nat} (hk : 0 < k) (h : n < 10 ^ k) : (txN n).length ≤ k := by
  rw [txN_len]
  exact TL.numL_len hk h
theorem txN_int {n : Nat} (h : n < 10 ^ 200) : intText? (txN n) = some (n : Int) := TL.int_num (Nat.le_trans (TL.numL_len (by decide) h) (by decide))
theorem num_head (n : Nat) : ∃ c r, TL.numL n = c :: r ∧ 48 ≤ c ∧ c ≤ 57 ∧ (c = 48 → n = 0) := by
  induction n using Nat.strongRecOn with
  | ind n ih =>
    by_cases h : n < 10
    · exact ⟨48 + n, [], TL.numL_lt h, by omega, by omega, by omega⟩
    · obtain ⟨c, r, e, h1, h2, h3⟩ := ih (n / 10) (by omega)
      refine ⟨c, r ++ [48 + n % 10], by rw [TL.numL_step (by omega), e]; rfl, h1, h2, fun z => ?_⟩
      have := h3 z
      omega
theorem num_sign {n c : Nat} (h : c ∈ TL.numL n) : 48 ≤ c ∧ c ≤ 57 := by
  induction n using Nat.strongRecOn with
  | ind n ih =>
    by_cases g : n < 10
    · rw [TL.numL_lt g] at h
      have := List.mem_singleton.mp h
      omega
    · rw [TL.numL_step (by omega)] at h
      rcases List.mem_append.mp h with h | h
      · exact ih (n / 10) (by omega) h
      · have := List.mem_singleton.mp h
        omega
theorem num_zero : TL.numL 0 = [48] := TL.numL_lt (by decide)
theorem txN_inj {m n : Nat} (h : txN m = txN n) : m = n := TL.numL_inj (by rw [← txN_cps, ← txN_cps, h])
/-! ## instructions -/
inductive Wd where
  | d
  | p (n : Nat)
  | r (n : Nat)
  | c (v : Int)
deriving DecidableEq
/-- a text from its signs -/
def sg (l : List Nat) : Str := ⟨l.toArray⟩
theorem sg_cps (l : List Nat) : (sg l).cps.toList = l := rfl
theorem sg_len (l : List Nat) : (sg l).length = l.length := by
  show l.toArray.size = _
  simp
theorem str_sg (z : Str) : z = sg z.cps.toList := by
  cases z
  rfl
theorem txN_sg (n : Nat) : txN n = sg (TL.numL n) := by
  rw [str_sg (txN n), txN_cps]
def Wd.sg : Wd → List Nat
  | .d => [100]
  | .p n => 112 :: TL.numL n
  | .r n => 114 :: TL.numL n
  | .c v => if v < 0 then 45 :: TL.numL v.natAbs else TL.numL v.natAbs
theorem wd_c (v : Int) : (Wd.c v).sg = if v < 0 then 45 :: TL.numL v.natAbs else TL.numL v.natAbs := rfl
def Wd.tx (w : Wd) : Str := Wx.sg w.sg
def okWd : Wd → Prop
  | .d => True
  | .p n => n ≤ 98
  | .r n => 1 ≤ n ∧ n ≤ 99
  | .c v => -(10 ^ 30) ≤ v ∧ v ≤ 10 ^ 30
theorem cut_head (z : Str) {c : Nat} {r : List Nat} (h : z.cps.toList = c :: r) : cutS z none (some 1) = sg [c] := by
  have hl : z.length = r.length + 1 := by
    show z.cps.size = _
    rw [← Array.length_toList, h]
    rfl
  unfold cutS
  rw [h, HT.sIx_none, show (some (1 : Int)) = some ((1 : Nat) : Int) from rfl, HT.sIx_nat, hl]
  simp [sg]
theorem cut_tail (z : Str) {c : Nat} {r : List Nat} (h : z.cps.toList = c :: r) : cutS z (some 1) none = sg r := by
  have hl : z.length = r.length + 1 := by
    show z.cps.size = _
    rw [← Array.length_toList, h]
    rfl
  unfold cutS
  rw [h, HT.sIx_none, show (some (1 : Int)) = some ((1 : Nat) : Int) from rfl, HT.sIx_nat, hl]
  simp [sg]
theorem wd_len {w : Wd} (h : okWd w) : 1 ≤ w.sg.length ∧ w.sg.length ≤ 33 := by
  have b : ∀ n : Nat, n < 10 ^ 31 → 1 ≤ (TL.numL n).length ∧ (TL.numL n).length ≤ 31 := fun n hn => ⟨List.length_pos_iff.mpr (TL.numL_ne n), TL.numL_len (by decide) hn⟩
  cases w with
  | d => exact ⟨by decide, by decide⟩
  | p n =>
    have h' : n ≤ 98 := h
    have := b n (by omega)
    show 1 ≤ _ + 1 ∧ _ + 1 ≤ 33
    omega
  | r n =>
    have h' : 1 ≤ n ∧ n ≤ 99 := h
    have := b n (by omega)
    show 1 ≤ _ + 1 ∧ _ + 1 ≤ 33
    omega
  | c v =>
    have h' : -(10 ^ 30) ≤ v ∧ v ≤ 10 ^ 30 := h
    have := b v.natAbs (by omega)
    rw [wd_c]
    split
    · show 1 ≤ _ + 1 ∧ _ + 1 ≤ 33
      omega
    · omega
theorem wd_sign {w : Wd} {x : Nat} (h : x ∈ w.sg) : 45 ≤ x ∧ x ≤ 114 := by
  cases w with
  | d =>
    have := List.mem_singleton.mp h
    omega
  | p n =>
    rcases List.mem_cons.mp h with h | h
    · omega
    · have := num_sign h; omega
  | r n =>
    rcases List.mem_cons.mp h with h | h
    · omega
    · have := num_sign h; omega
  | c v =>
    rw [wd_c] at h
    split at h
    · rcases List.mem_cons.mp h with h | h
      · omega
      · have := num_sign h; omega
    · have := num_sign h; omega
theorem sg_ok {l : List Nat} (h : ∀ x ∈ l, x < 1000) : PyData.strOk (sg l) = true := by
  unfold PyData.strOk
  rw [Array.all_eq_true_iff_forall_mem]
  intro ch hc
  have := h ch (by simpa [sg] using hc)
  exact decide_eq_true (by omega)
theorem wd_ok (w : Wd) : PyData.strOk w.tx = true := sg_ok fun x hx => by have := wd_sign hx; omega
theorem sg_inj {a b : List Nat} (h : sg a = sg b) : a = b := by
  have := congrArg (fun z : Str => z.cps.toList) h
  exact this
end Wx

/-! ### part X1 -/
set_option Elab.async false
set_option linter.all false
set_option maxRecDepth 100000
set_option maxHeartbeats 1000000
set_option autoImplicit false
namespace Wx
open PySem L2
/-- where a label stands for the next one of the goal -/
def fixB (goal pl : List Key) (i : Nat) : Bool := decide (goal[standF goal (pl.take i)]? = pl[i]?)
def fixN (goal pl : List Key) : Nat → List Nat
  | 0 => []
  | i + 1 => fixN goal pl i ++ if fixB goal pl i = true then [i] else []

def inR : Key → Int → Int → Bool
  | .inl i, lo, h => decide (lo ≤ i ∧ i ≤ h)
  | .inr _, _, _ => false
def abc : Str := "abcdefghijklmnopqrstuvwxyz"
/-- a symbol -/
def symOk (s : Str) : Prop := 1 ≤ s.length ∧ s.length ≤ 8 ∧ ∀ ch ∈ s.cps.toList, ch ∈ abc.cps.toList
def okLab : Key → Prop
  | .inl i => -(10 ^ 30) ≤ i ∧ i ≤ 10 ^ 30
  | .inr s => symOk s
theorem abc_lt : ∀ ch ∈ abc.cps.toList, ch < 0x110000 := by decide +kernel
theorem okLab_gd : ∀ {k : Key}, okLab k → gdK k = true
  | .inl _, _ => rfl
  | .inr s, h => by
    obtain ⟨_, _, h⟩ : symOk s := h
    show PyData.strOk s = true
    unfold PyData.strOk
    rw [Array.all_eq_true_iff_forall_mem]
    intro ch hc
    exact decide_eq_true (abc_lt _ (h _ (by simpa using hc)))
def okPl (l : List Key) : Prop := l.length ≤ 60 ∧ ∀ k ∈ l, okLab k
theorem okPl.shp {l : List Key} (h : okPl l) {k : Key} (hk : k ∈ l) : SeqAt.shaped (lab k) = true := shp_lab (okLab_gd (h.2 k hk))
theorem okPl.take {l : List Key} (h : okPl l) (n : Nat) : okPl (l.take n) := ⟨by rw [List.length_take]; have := h.1; omega, fun k hk => h.2 k (List.mem_of_mem_take hk)⟩
section
variable {c : Cy}
theorem wt_yes {e : En} {Ψ : Bool → Nat → Prop} (h : Ψ true e.n) : Wt c tYes e Ψ := ⟨fun σ A H o Q k => k true H e.n h Ek.refl o.good⟩
end
section
variable {P : Program} {w : World} {K : PySem.W.Frag} {mg : Str → Option Value} {base : Heap} {f : Addr} {fd : FuncData}
abbrev sp_is_int (K : PySem.W.Frag) : Sp := SpX (ι := Key) K (fun k => [.py (lab k)]) (fun _ _ => True) fun k n d m => d = .py (.bool (!isStr k)) ∧ m = n
theorem ln_is_int (k : Key) : [D.py (lab k)].length = 1 := rfl
theorem nm_is_int (k : Key) : [D.py (lab k)].all D.nm = true := rfl
theorem sc_is_int : FnScope ["value"] ["value"] (defScope (top 18)) := ⟨rfl, rfl, rfl, by decide +kernel, rfl, by decide +kernel, by decide +kernel⟩
theorem ok_is_int (F : FnP K "is_int" "is_int" (top 18) f fd) (g_isinstance : mg "isinstance" = none) (g_int : mg "int" = none) (g_bool : mg "bool" = none) : FnOk P w K mg base CX0 1 f fd ["value"] (sp_is_int K) := by
  refine F.ok sc_is_int (sx_len ln_is_int) (fun cdv A outer s H vs Q E hr h => ?_)
  have nd := sc_is_int.nd
  refine ⟨_, PSs.nox (pss_one (ps_ret (pe_and (pe_callB (isiK (K := K) rfl) rfl g_isinstance bt_isinstance (pa_cons (pv 0) (pa_cons (pe_bltn (v := .ty "int") rfl g_int bt_int rfl) pa_nil))) (pe_one (pe_not (pe_callB (isiK (K := K) rfl) rfl g_isinstance bt_isinstance (pa_cons (pv 0) (pa_cons (pe_bltn (v := .ty "bool") rfl g_bool bt_bool rfl) pa_nil)))))))), ?_⟩
  refine body_x nm_is_int ?_ vs H Q E h
  clear h hr
  intro c n x hK hp
  (subst hK)
  try clear g_isinstance g_int g_bool F
  cases x with
  | inl i =>
    dsimp only [lab]
    walk_at "WK"
    refine ⟨fun _ => ?_, fun h => nomatch h⟩
    walk_at "WK"
    trivial
  | inr s =>
    dsimp only [lab]
    walk_at "WK"
    refine ⟨fun z => absurd z (by decide +kernel), fun _ => ?_⟩
    exact ⟨rfl, rfl⟩
abbrev sp_in_range (K : PySem.W.Frag) : Sp := SpX (ι := Key × Int × Int) K (fun x => [.py (lab x.1), .py (.int x.2.1), .py (.int x.2.2)]) (fun _ _ => True) fun x n d m => d = .py (.bool (inR x.1 x.2.1 x.2.2)) ∧ m = n
theorem ln_in_range (x : Key × Int × Int) : [D.py (lab x.1), .py (.int x.2.1), .py (.int x.2.2)].length = 3 := rfl
theorem nm_in_range (x : Key × Int × Int) : [D.py (lab x.1), .py (.int x.2.1), .py (.int x.2.2)].all D.nm = true := rfl
theorem sc_in_range : FnScope ["value", "low", "high"] ["value", "low", "high"] (defScope (top 19)) := ⟨rfl, rfl, rfl, by decide +kernel, rfl, by decide +kernel, by decide +kernel⟩
theorem ok_in_range (F : FnP K "in_range" "in_range" (top 19) f fd) (S_is_int : Std P w K mg base 1 "is_int" ["value"] (sp_is_int K)) : FnOk P w K mg base CX0 2 f fd ["value", "low", "high"] (sp_in_range K) := by
  refine F.ok sc_in_range (sx_len ln_in_range) (fun cdv A outer s H vs Q E hr h => ?_)
  have nd := sc_in_range.nd
  refine ⟨_, PSs.nox (pss_one (ps_ret (pe_and (pe_std S_is_int hr rfl (pa_cons (pv 0) (pa_nil))) (pe_one (pe_chain op_le op_le (pv 1) (pv 0) (pv 2)))))), ?_⟩
  refine body_x nm_in_range ?_ vs H Q E h
  clear h hr
  intro c n x hK hp
  (subst hK)
  try clear S_is_int F
  obtain ⟨k, lo, hh⟩ := x
  dsimp only
  walk_at "WK"
  refine ⟨k, rfl, trivial, ?_⟩
  rintro d m ⟨rfl, rfl⟩
  refine ⟨rfl, ?_⟩
  walk_at "WK"
  cases k with
  | inl i =>
    refine ⟨fun _ => ?_, fun h => nomatch h⟩
    dsimp only [lab]
    walk_at "WK"
    refine ⟨fun h1 => ?_, fun h1 => ?_⟩
    · walk_at "WK"
      have h2 := of_decide_eq_true h1
      exact ⟨by simp [frz, h2, inR], rfl⟩
    · have h2 := of_decide_eq_false h1
      exact ⟨by simp [frz, h2, inR], rfl⟩
  | inr s =>
    refine ⟨fun z => (nomatch z), fun _ => ?_⟩
    exact ⟨rfl, rfl⟩
abbrev sp_is_constant (K : PySem.W.Frag) : Sp := SpX (ι := Key) K (fun k => [.py (lab k)]) (fun _ _ => True) fun k n d m => d = .py (.bool (inR k (-(10 ^ 30)) (10 ^ 30))) ∧ m = n
theorem ln_is_constant (k : Key) : [D.py (lab k)].length = 1 := rfl
theorem nm_is_constant (k : Key) : [D.py (lab k)].all D.nm = true := rfl
theorem sc_is_constant : FnScope ["value"] ["value"] (defScope (top 20)) := ⟨rfl, rfl, rfl, by decide +kernel, rfl, by decide +kernel, by decide +kernel⟩
theorem ok_is_constant (F : FnP K "is_constant" "is_constant" (top 20) f fd) (S_in_range : Std P w K mg base 2 "in_range" ["value", "low", "high"] (sp_in_range K)) (i_GREATEST : GInt mg "GREATEST" (10 ^ 30)) : FnOk P w K mg base CX0 3 f fd ["value"] (sp_is_constant K) := by
  refine F.ok sc_is_constant (sx_len ln_is_constant) (fun cdv A outer s H vs Q E hr h => ?_)
  have nd := sc_is_constant.nd
  refine ⟨_, PSs.nox (pss_one (ps_ret (pe_std S_in_range hr rfl (pa_cons (pv 0) (pa_cons (pe_un un_neg (pe_gint i_GREATEST rfl)) (pa_cons (pe_gint i_GREATEST rfl) (pa_nil))))))), ?_⟩
  refine body_x nm_is_constant ?_ vs H Q E h
  clear h hr
  intro c n x hK hp
  (subst hK)
  try clear S_in_range i_GREATEST F
  walk_at "WK"
  refine ⟨(x, -(10 ^ 30), 10 ^ 30), rfl, trivial, ?_⟩
  rintro d m ⟨rfl, rfl⟩
  exact ⟨rfl, rfl, rfl⟩
abbrev sp_is_symbol (K : PySem.W.Frag) : Sp := SpX (ι := Str) K (fun s => [.py (.str s)]) (fun s _ => symOk s) fun s n d m => d = .py (.bool true) ∧ m = n
theorem ln_is_symbol (s : Str) : [D.py (.str s)].length = 1 := rfl
theorem nm_is_symbol (s : Str) : [D.py (.str s)].all D.nm = true := rfl
theorem sc_is_symbol : FnScope ["value", "letter"] ["value"] (defScope (top 41)) := ⟨rfl, rfl, rfl, by decide +kernel, rfl, by decide +kernel, by decide +kernel⟩
theorem ok_is_symbol (F : FnP K "is_symbol" "is_symbol" (top 41) f fd) (g_isinstance : mg "isinstance" = none) (g_str : mg "str" = none) (i_MOST_LETTERS : GInt mg "MOST_LETTERS" 8) (g_len : mg "len" = none) (g_all : mg "all" = none) (s_LETTERS : GStr mg "LETTERS" "abcdefghijklmnopqrstuvwxyz") : FnOk P w K mg base CX0 1 f fd ["value"] (sp_is_symbol K) := by
  refine F.ok sc_is_symbol (sx_len ln_is_symbol) (fun cdv A outer s H vs Q E hr h => ?_)
  have nd := sc_is_symbol.nd
  refine ⟨_, PSs.nox (pss_cons (ps_if (PW.pt (pw_or (pt_not (truK (K := K) rfl (pe_callB (isiK (K := K) rfl) rfl g_isinstance bt_isinstance (pa_cons (pv 0) (pa_cons (pe_bltn (v := .ty "str") rfl g_str bt_str rfl) pa_nil))) (by intro _; rfl))) (pw_or1 (pt_not (pt_chain op_le op_le (pe_int) (pe_callB (lenK (K := K) rfl) rfl g_len PySem.boot_len (pa_cons (pv 0) (pa_nil))) (pe_gint i_MOST_LETTERS rfl)))))) (pss_one (ps_ret (pe_bl))) (pss_nil))
 (pss_one (ps_ret (pe_callB (allK (K := K) rfl rfl) rfl g_all bt_all (pa_cons (pe_lc (own := [("letter", 1)]) rfl nd (pi_str (pv 0)) (blkOk_by (N := ["value", "letter"]) (sc := (defScope (top 41))) (by decide +kernel)) (fun _ _ _ _ _ => pg_name (i := 1) nd rfl (Or.inl rfl) (.inr rfl)) (fun _ _ _ _ _ => pts_nil) (fun _ _ _ _ _ => pe_cmpR opInSg (pv 1) (pe_gstr s_LETTERS rfl) (by rfl))) (pa_nil)))))), ?_⟩
  refine body_x nm_is_symbol ?_ vs H Q E h
  clear h hr
  intro c n x hK hp
  (subst hK)
  try clear g_isinstance g_str i_MOST_LETTERS g_len g_all s_LETTERS F
  obtain ⟨h1, h2, h3⟩ : symOk x := hp
  have hz : x.length ≤ sizeLine := Nat.le_trans h2 (by rw [sizeLine_eq]; decide)
  walk_at "WK"
  refine ⟨fun _ => ?_, fun z => (nomatch z)⟩
  walk_at "WK"
  refine ⟨hz, ?_⟩
  walk_at "WK"
  refine ⟨fun _ => ?_, fun c1 => absurd (of_decide_eq_false c1) (by omega)⟩
  walk_at "WK"
  rw [decide_eq_true (show (x.length : Int) ≤ 8 by omega)]
  refine ⟨fun z => (nomatch z), fun _ => ?_⟩
  walk_at "WK"
  refine wp_new (wn_lc (fun v hv => ?_) (wi_str ?_))
  · have : v = 1 := by simpa using hv
    subst this
    exact Nat.le_of_ble_eq_true rfl
  · walk_at "WK"
    refine ⟨x, rfl, ?_⟩
    refine ⟨fun i acc m' => m' = n ∧ acc = (List.replicate i true).map PyData.bool, ⟨rfl, rfl⟩, by rw [signs_len]; exact Nat.lt_of_le_of_lt h2 (by decide), ?_, ?_⟩
    · rintro i acc m' d hd ⟨rfl, rfl⟩
      obtain ⟨s, _, hs, rfl⟩ := signs_item hd
      refine wg_name ⟨rfl, ?_⟩ (Nat.le_of_ble_eq_true rfl) (by decide)
      refine wt_yes ⟨fun _ => ?_, fun z => nomatch z⟩
      walk_at "WK"
      refine rw_inSg ?_
      rw [show decide (s ∈ (Str.ofString "abcdefghijklmnopqrstuvwxyz").cps.toList) = true from decide_eq_true (h3 s hs)]
      refine ⟨rfl, ?_⟩
      rw [List.replicate_succ', List.map_append]
      rfl
    · rintro acc m' ⟨rfl, rfl⟩
      walk_at "WK"
      refine cw_all rfl (one_mk (ls_py ⟨_, rfl, ?_⟩))
      have e : (List.replicate (signs x).length true).all id = true := List.all_eq_true.mpr fun b hb => by rw [List.eq_of_mem_replicate hb]; rfl
      dsimp only
      rw [e]
      exact ⟨rfl, rfl⟩
abbrev sp_is_pile (K : PySem.W.Frag) : Sp := SpX (ι := List Key) K (fun l => [.py (pile l)]) (fun l _ => okPl l) fun l n d m => d = .py (.bool true) ∧ m = n
theorem ln_is_pile (l : List Key) : [D.py (pile l)].length = 1 := rfl
theorem nm_is_pile (l : List Key) : [D.py (pile l)].all D.nm = true := rfl
theorem sc_is_pile : FnScope ["value", "label"] ["value"] (defScope (top 42)) := ⟨rfl, rfl, rfl, by decide +kernel, rfl, by decide +kernel, by decide +kernel⟩
theorem ok_is_pile (F : FnP K "is_pile" "is_pile" (top 42) f fd) (i_MOST_LABELS : GInt mg "MOST_LABELS" 60) (g_isinstance : mg "isinstance" = none) (g_tuple : mg "tuple" = none) (g_len : mg "len" = none) (g_all : mg "all" = none) (S_is_constant : Std P w K mg base 3 "is_constant" ["value"] (sp_is_constant K)) (S_is_symbol : Std P w K mg base 1 "is_symbol" ["value"] (sp_is_symbol K)) : FnOk P w K mg base CX0 4 f fd ["value"] (sp_is_pile K) := by
  refine F.ok sc_is_pile (sx_len ln_is_pile) (fun cdv A outer s H vs Q E hr h => ?_)
  have nd := sc_is_pile.nd
  refine ⟨_, PSs.nox (pss_cons (ps_if (PW.pt (pw_or (pt_not (truK (K := K) rfl (pe_callB (isiK (K := K) rfl) rfl g_isinstance bt_isinstance (pa_cons (pv 0) (pa_cons (pe_bltn (v := .ty "tuple") rfl g_tuple bt_tuple rfl) pa_nil))) (by intro _; rfl))) (pw_or1 (pt_cmpR op_gt (pe_callB (lenK (K := K) rfl) rfl g_len PySem.boot_len (pa_cons (pv 0) (pa_nil))) (pe_gint i_MOST_LABELS rfl) (nomark _))))) (pss_one (ps_ret (pe_bl))) (pss_nil))
 (pss_one (ps_ret (pe_callB (allK (K := K) rfl rfl) rfl g_all bt_all (pa_cons (pe_lc (own := [("label", 1)]) rfl nd (itupK (K := K) rfl (pv 0)) (blkOk_by (N := ["value", "label"]) (sc := (defScope (top 42))) (by decide +kernel)) (fun _ _ _ _ _ => pg_name (i := 1) nd rfl (Or.inl rfl) (.inr rfl)) (fun _ _ _ _ _ => pts_nil) (fun _ _ _ _ _ => pe_or (pe_std S_is_constant hr rfl (pa_cons (pv 1) (pa_nil))) (pe_one (pe_std S_is_symbol (hr.mono (by decide)) rfl (pa_cons (pv 1) (pa_nil)))))) (pa_nil)))))), ?_⟩
  refine body_x nm_is_pile ?_ vs H Q E h
  clear h hr
  intro c n x hK hp
  (subst hK)
  try clear i_MOST_LABELS g_isinstance g_tuple g_len g_all S_is_constant S_is_symbol F
  obtain ⟨h1, h2⟩ : x.length ≤ 60 ∧ ∀ k ∈ x, okLab k := hp
  have hz : (labs x).length ≤ sizeLine := by rw [labs_len]; exact Nat.le_trans h1 (by rw [sizeLine_eq]; decide)
  walk_at "WK"
  refine ⟨fun _ => ?_, fun z => (nomatch z)⟩
  walk_at "WK"
  refine ⟨fun z => absurd (of_decide_eq_true z) (by rw [labs_len]; omega), fun _ => ?_⟩
  walk_at "WK"
  refine wp_new (wn_lc (fun v hv => ?_) (wi_tup rfl ?_))
  · have : v = 1 := by simpa using hv
    subst this
    exact Nat.le_of_ble_eq_true rfl
  · walk_at "WK"
    refine ⟨fun i acc m' => m' = n ∧ acc = (List.replicate i true).map PyData.bool, ⟨rfl, rfl⟩, by rw [List.length_map, labs_len]; omega, ?_, ?_⟩
    · rintro i acc m' d hd ⟨rfl, rfl⟩
      obtain ⟨s, _, hs, rfl⟩ := labs_item hd
      have hs' := h2 s hs
      have fin : (List.replicate i true).map PyData.bool ++ [.bool true] = (List.replicate (i + 1) true).map PyData.bool := by
        rw [List.replicate_succ', List.map_append]
        rfl
      refine wg_name ⟨rfl, ?_⟩ (Nat.le_of_ble_eq_true rfl) (by decide)
      refine wt_yes ⟨fun _ => ?_, fun z => nomatch z⟩
      walk_at "WK"
      refine ⟨s, rfl, trivial, ?_⟩
      rintro d m ⟨rfl, rfl⟩
      cases s with
      | inl v =>
        have hv : -(10 ^ 30) ≤ v ∧ v ≤ 10 ^ 30 := hs'
        refine ⟨rfl, fun z => absurd (of_decide_eq_false z) (fun q => q hv), fun _ => ?_⟩
        exact ⟨rfl, fin⟩
      | inr v =>
        have hv : symOk v := hs'
        refine ⟨rfl, fun _ => ?_, fun z => (nomatch z)⟩
        walk_at "WK"
        refine ⟨v, rfl, hv, ?_⟩
        rintro d m ⟨rfl, rfl⟩
        exact ⟨rfl, rfl, fin⟩
    · rintro acc m' ⟨rfl, rfl⟩
      walk_at "WK"
      refine cw_all rfl (one_mk (ls_py ⟨_, rfl, ?_⟩))
      have e : (List.replicate ((labs x).map D.py).length true).all id = true := List.all_eq_true.mpr fun b hb => by rw [List.eq_of_mem_replicate hb]; rfl
      dsimp only
      rw [e]
      exact ⟨rfl, rfl⟩
abbrev sp_require_pile (K : PySem.W.Frag) : Sp := SpX (ι := List Key) K (fun l => [.py (pile l)]) (fun l _ => okPl l) fun l n d m => d = .py .none ∧ m = n
theorem ln_require_pile (l : List Key) : [D.py (pile l)].length = 1 := rfl
theorem nm_require_pile (l : List Key) : [D.py (pile l)].all D.nm = true := rfl
theorem sc_require_pile : FnScope ["value"] ["value"] (defScope (top 43)) := ⟨rfl, rfl, rfl, by decide +kernel, rfl, by decide +kernel, by decide +kernel⟩
theorem ok_require_pile (F : FnP K "require_pile" "require_pile" (top 43) f fd) (S_is_pile : Std P w K mg base 4 "is_pile" ["value"] (sp_is_pile K)) : FnOk P w K mg base CX0 5 f fd ["value"] (sp_require_pile K) := by
  refine F.ok sc_require_pile (sx_len ln_require_pile) (fun cdv A outer s H vs Q E hr h => ?_)
  have nd := sc_require_pile.nd
  refine ⟨_, PSs.nox (pss_one (ps_if (pt_not (truK (K := K) rfl (pe_std S_is_pile hr rfl (pa_cons (pv 0) (pa_nil))) (by intro _; rfl))) (pss_one (ps_never)) (pss_nil))), ?_⟩
  refine body_x nm_require_pile ?_ vs H Q E h
  clear h hr
  intro c n x hK hp
  (subst hK)
  try clear S_is_pile F
  walk_at "WK"
  refine ⟨x, rfl, hp, ?_⟩
  rintro d m ⟨rfl, rfl⟩
  refine ⟨rfl, ?_⟩
  walk_at "WK"
  refine ⟨fun z => (nomatch z), fun _ => ?_⟩
  walk_at "WK"
  exact rfl
abbrev sp_counts_of (K : PySem.W.Frag) : Sp := SpX (ι := List Key) K (fun l => [.py (pile l)]) (fun l _ => l.length ≤ 60) fun l n d m => d = .dcl (dI (tal l)) ∧ m = n
theorem ln_counts_of (l : List Key) : [D.py (pile l)].length = 1 := rfl
theorem nm_counts_of (l : List Key) : [D.py (pile l)].all D.nm = true := rfl
theorem sc_counts_of : FnScope ["labels", "found", "label"] ["labels"] (defScope (top 44)) := ⟨rfl, rfl, rfl, by decide +kernel, rfl, by decide +kernel, by decide +kernel⟩
theorem ok_counts_of (F : FnP K "counts_of" "counts_of" (top 44) f fd)  : FnOk P w K mg base CX0 1 f fd ["labels"] (sp_counts_of K) := by
  refine F.ok sc_counts_of (sx_len ln_counts_of) (fun cdv A outer s H vs Q E hr h => ?_)
  have nd := sc_counts_of.nd
  refine ⟨_, PSs.nox (pss_cons (ps_setO (i := 1) nd rfl (Or.inl rfl) (pe_dnewK))
 (pss_cons (ps_for PassesOwn.never rfl (itupK (K := K) rfl (pv 0)) (pg_name (i := 2) nd rfl (Or.inl rfl)) (pss_one (ps_dput (hu_of hr) (pv 1) (pv 2) (pe_op (addK (K := K) rfl) (pe_dget2 (hu_of hr) (pv 1) (pv 2) (pe_int) ⟨rfl, rfl, rfl, rfl⟩) (pe_int)) rfl)))
 (pss_one (ps_retL (pv 1))))), ?_⟩
  refine body_x nm_counts_of ?_ vs H Q E h
  clear h hr
  intro c n x hK hp
  (subst hK)
  try clear F
  walk_at "WK"
  refine ws_for [2] (wi_tup rfl ?_)
  walk_at "WK"
  refine ⟨fun i e1 => ∃ s2, e1 = ⟨[.val (.py (pile x)), .own (.dct (dI (tal (x.take i)))), s2], n⟩, ⟨.emp, rfl⟩, ?_, ?_⟩
  · rintro i d e1 hd ⟨s2, rfl⟩
    obtain ⟨k, hk, _, rfl⟩ := labs_item hd
    refine wg_name ⟨rfl, ?_⟩ (Nat.le_of_ble_eq_true rfl) (by decide)
    walk_at "WK"
    refine ⟨_, rfl, ?_⟩
    rw [getD_dI]
    walk_at "WK"
    refine ⟨_, rfl, ?_⟩
    walk_at "WK"
    have hl := tal_len (x.take i)
    rw [List.length_take] at hl
    refine ⟨by rw [dI_len]; exact Nat.lt_of_le_of_lt (show _ ≤ 60 by have : x.length ≤ 60 := hp; omega) (by rw [sizeLine_eq]; decide), .val (.py (lab k)), ?_⟩
    rw [List.take_add_one, hk, show (x.take i ++ (some k).toList) = x.take i ++ [k] from rfl, tal_snoc, putP_dI]
    rfl
  · rintro e1 ⟨s2, rfl⟩
    walk_at "WK"
    rw [List.length_map, labs_len, List.take_length]
    exact ⟨rfl, rfl⟩
abbrev sp_counts_ofU (K : PySem.W.Frag) : Sp := SpX (ι := List Key) K (fun l => [.py (pile l)]) (fun l _ => l.length ≤ 60) fun l n d m => d = .dct (dI (tal l)) ∧ m = n
theorem ok_counts_ofU (F : FnP K "counts_of" "counts_of" (top 44) f fd)  : FnOk P w K mg base CX0 1 f fd ["labels"] (sp_counts_ofU K) := by
  refine F.ok sc_counts_of (sx_len ln_counts_of) (fun cdv A outer s H vs Q E hr h => ?_)
  have nd := sc_counts_of.nd
  refine ⟨_, PSs.nox (pss_cons (ps_setO (i := 1) nd rfl (Or.inl rfl) (pe_dnewK))
 (pss_cons (ps_for PassesOwn.never rfl (itupK (K := K) rfl (pv 0)) (pg_name (i := 2) nd rfl (Or.inl rfl)) (pss_one (ps_dput (hu_of hr) (pv 1) (pv 2) (pe_op (addK (K := K) rfl) (pe_dget2 (hu_of hr) (pv 1) (pv 2) (pe_int) ⟨rfl, rfl, rfl, rfl⟩) (pe_int)) rfl)))
 (pss_one (ps_ret (pv 1))))), ?_⟩
  refine body_x nm_counts_of ?_ vs H Q E h
  clear h hr
  intro c n x hK hp
  (subst hK)
  try clear F
  walk_at "WK"
  refine ws_for [2] (wi_tup rfl ?_)
  walk_at "WK"
  refine ⟨fun i e1 => ∃ s2, e1 = ⟨[.val (.py (pile x)), .own (.dct (dI (tal (x.take i)))), s2], n⟩, ⟨.emp, rfl⟩, ?_, ?_⟩
  · rintro i d e1 hd ⟨s2, rfl⟩
    obtain ⟨k, hk, _, rfl⟩ := labs_item hd
    refine wg_name ⟨rfl, ?_⟩ (Nat.le_of_ble_eq_true rfl) (by decide)
    walk_at "WK"
    refine ⟨_, rfl, ?_⟩
    rw [getD_dI]
    walk_at "WK"
    refine ⟨_, rfl, ?_⟩
    walk_at "WK"
    have hl := tal_len (x.take i)
    rw [List.length_take] at hl
    refine ⟨by rw [dI_len]; exact Nat.lt_of_le_of_lt (show _ ≤ 60 by have : x.length ≤ 60 := hp; omega) (by rw [sizeLine_eq]; decide), .val (.py (lab k)), ?_⟩
    rw [List.take_add_one, hk, show (x.take i ++ (some k).toList) = x.take i ++ [k] from rfl, tal_snoc, putP_dI]
    rfl
  · rintro e1 ⟨s2, rfl⟩
    walk_at "WK"
    rw [List.length_map, labs_len, List.take_length]
    exact ⟨rfl, rfl⟩
abbrev sp_standing_in (K : PySem.W.Frag) : Sp := SpX (ι := List Key × List Key) K (fun x => [.py (pile x.1), .py (pile x.2)]) (fun x _ => okPl x.1 ∧ okPl x.2) fun x n d m => (∃ xs, d = .py (.list (nums xs)) ∧ xs.length = standF x.2 x.1 ∧ xs = (fixN x.2 x.1 x.1.length).map Int.ofNat) ∧ m = n
theorem ln_standing_in (x : List Key × List Key) : [D.py (pile x.1), .py (pile x.2)].length = 2 := rfl
theorem nm_standing_in (x : List Key × List Key) : [D.py (pile x.1), .py (pile x.2)].all D.nm = true := rfl
theorem sc_standing_in : FnScope ["pile", "goal", "found", "index", "label"] ["pile", "goal"] (defScope (top 45)) := ⟨rfl, rfl, rfl, by decide +kernel, rfl, by decide +kernel, by decide +kernel⟩
theorem ok_standing_in (F : FnP K "standing_in" "standing_in" (top 45) f fd) (g_enumerate : mg "enumerate" = none) (g_len : mg "len" = none) : FnOk P w K mg base CX0 1 f fd ["pile", "goal"] (sp_standing_in K) := by
  refine F.ok sc_standing_in (sx_len ln_standing_in) (fun cdv A outer s H vs Q E hr h => ?_)
  have nd := sc_standing_in.nd
  refine ⟨_, PSs.nox (pss_cons (ps_setO (i := 2) nd rfl (Or.inl rfl) (pe_lst (pa_nil)))
 (pss_cons (ps_for PassesOwn.never rfl (enumK (K := K) rfl rfl g_enumerate (pa_cons (pv 0) (pa_nil))) (gtupK (K := K) (n := 2) rfl rfl (pgs_cons (pg_name (i := 3) nd rfl (Or.inl rfl)) (pgs_cons (pg_name (i := 4) nd rfl (Or.inl rfl)) (pgs_nil)))) (pss_one (ps_if (PW.pt (pw_and (pt_cmpR op_lt (pe_callB (lenK (K := K) rfl) rfl g_len PySem.boot_len (pa_cons (pv 2) (pa_nil))) (pe_callB (lenK (K := K) rfl) rfl g_len PySem.boot_len (pa_cons (pv 1) (pa_nil))) (nomark _)) (pw_and1 (pt_cmpR (eqK (K := K) rfl (room64 hr)) (pe_ix (ixK (K := K) rfl) (pv 1) (pe_callB (lenK (K := K) rfl) rfl g_len PySem.boot_len (pa_cons (pv 2) (pa_nil))) (fun _ _ => rfl)) (pv 4) (nomark _))))) (pss_one (ps_expr (pe_bm PySem.F.plainAttrs_list PySem.F.slot_list_append PySem.F.type_list_append mt_append (pv 2) (pa_cons (pv 3) (pa_nil))))) (pss_nil))))
 (pss_one (ps_ret (pv 2))))), ?_⟩
  refine body_x nm_standing_in ?_ vs H Q E h
  clear h hr
  intro c n x hK hp
  (subst hK)
  try clear g_enumerate g_len F
  walk_at "WK"
  refine ws_for [3, 4] (wi_enumT rfl ?_)
  walk_at "WK"
  refine ⟨_, rfl, ?_⟩
  refine ⟨fun i e1 => ∃ s3 s4 xs, (xs.length = standF x.2 (x.1.take i) ∧ xs = (fixN x.2 x.1 i).map Int.ofNat) ∧ e1 = ⟨[.val (.py (pile x.1)), .val (.py (pile x.2)), .own (.lst (nums xs)), s3, s4], n⟩, ⟨.emp, .emp, [], ⟨rfl, rfl⟩, rfl⟩, ?_, ?_⟩
  · rintro i d e1 hd ⟨s3, s4, xs, ⟨hx, hx2⟩, rfl⟩
    rw [enumD_get] at hd
    obtain ⟨hp1, hp2⟩ : okPl x.1 ∧ okPl x.2 := hp
    obtain ⟨k, hk, hkm, rfl⟩ : ∃ k, x.1[i]? = some k ∧ k ∈ x.1 ∧ d = .py (.tuple [.int (i : Int), lab k]) := by
      unfold labs at hd
      rw [List.getElem?_map] at hd
      cases q : x.1[i]? with
      | none => rw [q] at hd; cases hd
      | some k => rw [q] at hd; cases hd; exact ⟨k, rfl, List.mem_of_getElem? q, rfl⟩
    refine wg_pair rfl ⟨_, _, rfl, wg_name ⟨rfl, wg_name ⟨rfl, ?_⟩ (Nat.le_of_ble_eq_true rfl) (by decide)⟩ (Nat.le_of_ble_eq_true rfl) (by decide)⟩
    have hsub := (stand_sub x.2 (x.1.take i)).1
    have lx : (nums xs).length = standF x.2 (x.1.take i) := by rw [nums_len, hx]
    have sn : standF x.2 (x.1.take (i + 1)) = if x.2[standF x.2 (x.1.take i)]? = some k then standF x.2 (x.1.take i) + 1 else standF x.2 (x.1.take i) := by
      rw [List.take_add_one, hk, show (x.1.take i ++ (some k).toList) = x.1.take i ++ [k] from rfl, stand_snoc]
    have fb : fixN x.2 x.1 (i + 1) = fixN x.2 x.1 i ++ if x.2[standF x.2 (x.1.take i)]? = some k then [i] else [] := by
      show fixN x.2 x.1 i ++ (if fixB x.2 x.1 i = true then [i] else []) = _
      unfold fixB
      rw [hk]
      by_cases e : x.2[standF x.2 (x.1.take i)]? = some k
      · rw [decide_eq_true e, if_pos rfl, if_pos e]
      · rw [decide_eq_false e, if_neg (fun z => nomatch z), if_neg e]
    generalize standF x.2 (x.1.take i) = S at *
    walk_at "WK"
    rw [lx, labs_len]
    refine ⟨fun q1 => ?_, fun q1 => ⟨fun z => (nomatch z), fun _ => ?_⟩⟩
    · have q1' := of_decide_eq_true q1
      have hlt : S < x.2.length := by omega
      have hg : x.2[S]? = some x.2[S] := List.getElem?_eq_getElem hlt
      walk_at "WK"
      rw [lx]
      refine ⟨_, labs_at hg, ?_⟩
      walk_at "WK"
      refine ⟨hp2.shp (List.getElem_mem _), hp1.shp hkm, ?_⟩
      rw [eqv_lab]
      walk_at "WK"
      refine ⟨fun q2 => ?_, fun q2 => ?_⟩
      · have q2' := of_decide_eq_true q2
        walk_at "WK"
        refine ⟨_, rfl, by rw [lx]; exact Nat.lt_of_le_of_lt (show _ ≤ 60 by have := hp2.1; omega) (by rw [sizeLine_eq]; decide), .val (.py (.int i)), .val (.py (lab k)), xs ++ [(i : Int)], ⟨?_, ?_⟩, ?_⟩
        · rw [sn, if_pos (by rw [hg, q2']), List.length_append, hx]
          rfl
        · rw [fb, if_pos (by rw [hg, q2']), hx2, List.map_append]
          rfl
        · rw [show nums (xs ++ [(i : Int)]) = nums xs ++ [.int (i : Int)] from (nums_app _ _).symm]
          rfl
      · have q2' := of_decide_eq_false q2
        walk_at "WK"
        refine ⟨_, _, xs, ⟨?_, ?_⟩, rfl⟩
        · rw [sn, if_neg (by rw [hg]; exact fun z => q2' (Option.some.inj z)), hx]
        · rw [fb, if_neg (by rw [hg]; exact fun z => q2' (Option.some.inj z)), hx2, List.append_nil]
    · have q1' := of_decide_eq_false q1
      walk_at "WK"
      refine ⟨_, _, xs, ⟨?_, ?_⟩, rfl⟩
      · rw [sn, if_neg (by rw [List.getElem?_eq_none (by omega)]; exact fun z => nomatch z), hx]
      · rw [fb, if_neg (by rw [List.getElem?_eq_none (by omega)]; exact fun z => nomatch z), hx2, List.append_nil]
  · rintro e1 ⟨s3, s4, xs, ⟨hx, hx2⟩, rfl⟩
    walk_at "WK"
    rw [enumD_len, labs_len] at hx hx2
    refine ⟨⟨xs, rfl, ?_, hx2⟩, rfl⟩
    rw [hx, List.take_length]
end
end Wx

/-! ### part Zo -/
set_option Elab.async false
set_option linter.all false
set_option maxRecDepth 100000
set_option maxHeartbeats 1000000
set_option autoImplicit false
/-! The plain law of plans. -/
namespace Wx
open PySem L2
/-! ## the best number of dropped labels -/
def bestK (pl goal : List Key) : Nat → Option (Int × Nat)
  | 0 => none
  | k + 1 => if okF pl goal k = true then some (match bestK pl goal k with | none => (numF pl goal k, k) | some b => if numF pl goal k < b.1 then (numF pl goal k, k) else b) else bestK pl goal k
theorem bestK_F (pl goal : List Key) : ∀ n, bestF pl goal n = (bestK pl goal n).map Prod.fst
  | 0 => rfl
  | n + 1 => by
    have ih := bestK_F pl goal n
    show (if okF pl goal n = true then _ else _) = Option.map _ (if okF pl goal n = true then _ else _)
    by_cases o : okF pl goal n = true
    · rw [if_pos o, if_pos o, ih]
      cases bestK pl goal n with
      | none => rfl
      | some b =>
        simp only [Option.map_some]
        split <;> rfl
    · rw [if_neg o, if_neg o, ih]
theorem bestK_spec (pl goal : List Key) : ∀ n, (bestK pl goal n = none → ∀ k < n, okF pl goal k = false) ∧ ∀ b q, bestK pl goal n = some (b, q) → q < n ∧ okF pl goal q = true ∧ numF pl goal q = b ∧ ∀ k < n, okF pl goal k = true → b ≤ numF pl goal k
  | 0 => ⟨fun _ k h => absurd h (Nat.not_lt_zero k), fun b q h => by cases h⟩
  | n + 1 => by
    obtain ⟨h1, h2⟩ := bestK_spec pl goal n
    by_cases o : okF pl goal n = true
    · have e : bestK pl goal (n + 1) = some (match bestK pl goal n with | none => (numF pl goal n, n) | some b => if numF pl goal n < b.1 then (numF pl goal n, n) else b) := if_pos o
      rw [e]
      refine ⟨fun h => (by cases h), fun b q h => ?_⟩
      cases w : bestK pl goal n with
      | none =>
        rw [w] at h
        cases h
        refine ⟨Nat.lt_succ_self n, o, rfl, fun k hk ok => ?_⟩
        by_cases z : k = n
        · rw [z]; exact Int.le_refl _
        · rw [h1 w k (by omega)] at ok; cases ok
      | some p =>
        obtain ⟨b', q'⟩ := p
        rw [w] at h
        obtain ⟨g1, g2, g3, g4⟩ := h2 b' q' w
        dsimp only at h
        by_cases l : numF pl goal n < b'
        · rw [if_pos l] at h
          cases h
          refine ⟨Nat.lt_succ_self n, o, rfl, fun k hk ok => ?_⟩
          by_cases z : k = n
          · rw [z]; exact Int.le_refl _
          · have := g4 k (by omega) ok; omega
        · rw [if_neg l] at h
          cases h
          refine ⟨by omega, g2, g3, fun k hk ok => ?_⟩
          by_cases z : k = n
          · rw [z]; omega
          · exact g4 k (by omega) ok
    · have e : bestK pl goal (n + 1) = bestK pl goal n := if_neg o
      rw [e]
      refine ⟨fun h k hk => ?_, fun b q h => ?_⟩
      · by_cases z : k = n
        · rw [z]; exact Bool.eq_false_iff.mpr o
        · exact h1 h k (by omega)
      · obtain ⟨g1, g2, g3, g4⟩ := h2 b q h
        refine ⟨by omega, g2, g3, fun k hk ok => ?_⟩
        by_cases z : k = n
        · rw [z] at ok; exact absurd ok o
        · exact g4 k (by omega) ok
end Wx

/-! ### part T1 -/
set_option Elab.async false
set_option linter.all false
set_option maxRecDepth 100000
set_option maxHeartbeats 1000000
set_option autoImplicit false
namespace Wx
open PySem L2
def rINTS : List V → Hp → VK → Prop := fun xs H Q => ∃ a n, xs = [.str a] ∧ PySem.intText? a = some n ∧ a.length ≤ 640 ∧ Q (.int n) H
theorem callINTS {X : Cx} : CallR X (.type "int") rINTS := call_int_str
theorem cw_intS {c : Cy} {Φ : D → Nat → Prop} {n : Nat} {ds : List D} (h : One ds fun d => ∃ a v, d = .py (.str a) ∧ intText? a = some v ∧ a.length ≤ 640 ∧ Φ (.py (.int v)) n) : Cw c rINTS ds n Φ := ⟨fun A H vs at' x Q k => by
  obtain ⟨v, d, rfl, x, a, i, rfl, h1, h2, q⟩ := one_of h x
  cases Da.str_eq x
  exact ⟨a, i, rfl, h1, h2, k _ H _ n q Ek.refl at'.good (.int _)⟩⟩
theorem digit_in {ch v : Nat} (h : ch ∈ (txN v).cps.toList) : decide (ch ∈ (Str.ofString "0123456789").cps.toList) = true := by
  rw [txN_cps] at h
  have h2 := num_sign h
  refine decide_eq_true ?_
  have w : ∀ c : Fin 58, 48 ≤ c.val → c.val ∈ (Str.ofString "0123456789").cps.toList := by decide +kernel
  exact w ⟨ch, by omega⟩ h2.1
theorem txN_ok (v : Nat) : PyData.strOk (txN v) = true := by
  unfold PyData.strOk
  rw [Array.all_eq_true_iff_forall_mem]
  intro ch hc
  have h2 := num_sign (n := v) (by rw [← txN_cps]; simpa using hc)
  exact decide_eq_true (by omega)
theorem txN_zero {v : Nat} : decide (txN v = Str.ofString "0") = decide (v = 0) := by
  rw [decide_eq_decide]
  constructor
  · intro h
    exact txN_inj (h.trans (show Str.ofString "0" = txN 0 by decide +kernel))
  · rintro rfl
    decide +kernel
theorem eqv_strD (a b : Str) : PyData.eqv (.str a) (.str b) = decide (a = b) := by
  have h := eqv_lab (.inr a) (.inr b)
  rw [show PyData.eqv (.str a) (.str b) = PyData.eqv (lab (.inr a)) (lab (.inr b)) from rfl, h, decide_eq_decide]
  exact ⟨fun z => Sum.inr.inj z, fun z => by rw [z]⟩

section
variable {P : Program} {w : World} {K : PySem.W.Frag} {mg : Str → Option Value} {base : Heap} {f C : Addr} {fd : FuncData}
abbrev sp_is_decimal (K : PySem.W.Frag) : Sp := SpX (ι := Nat × Int × Int) K (fun x => [.py (.str (txN x.1)), .py (.int x.2.1), .py (.int x.2.2)]) (fun x _ => x.1 < 10 ^ 31) fun x n d m => d = .py (.bool (decide (x.2.1 ≤ x.1 ∧ (x.1 : Int) ≤ x.2.2))) ∧ m = n
theorem ln_is_decimal (x : Nat × Int × Int) : [D.py (.str (txN x.1)), .py (.int x.2.1), .py (.int x.2.2)].length = 3 := rfl
theorem nm_is_decimal (x : Nat × Int × Int) : [D.py (.str (txN x.1)), .py (.int x.2.1), .py (.int x.2.2)].all D.nm = true := rfl
theorem sc_is_decimal : FnScope ["signs", "low", "high", "sign"] ["signs", "low", "high"] (defScope (top 21)) := ⟨rfl, rfl, rfl, by decide +kernel, rfl, by decide +kernel, by decide +kernel⟩
theorem ok_is_decimal (F : FnP K "is_decimal" "is_decimal" (top 21) f fd) (i_MOST_DIGITS : GInt mg "MOST_DIGITS" 31) (g_all : mg "all" = none) (g_len : mg "len" = none) (s_DIGITS : GStr mg "DIGITS" "0123456789") (g_int : mg "int" = none) : FnOk P w K mg base CX0 1 f fd ["signs", "low", "high"] (sp_is_decimal K) := by
  refine F.ok sc_is_decimal (sx_len ln_is_decimal) (fun cdv A outer s H vs Q E hr h => ?_)
  have nd := sc_is_decimal.nd
  refine ⟨_, PSs.nox (pss_cons (ps_if (PW.pt (pw_or (pt_not (pt_chain op_le op_le (pe_int) (pe_callB (lenK (K := K) rfl) rfl g_len PySem.boot_len (pa_cons (pv 0) (pa_nil))) (pe_gint i_MOST_DIGITS rfl))) (pw_or1 (pt_not (truK (K := K) rfl (pe_callB (allK (K := K) rfl rfl) rfl g_all bt_all (pa_cons (pe_lc (own := [("sign", 3)]) rfl nd (pi_str (pv 0)) (blkOk_by (N := ["signs", "low", "high", "sign"]) (sc := (defScope (top 21))) (by decide +kernel)) (fun _ _ _ _ _ => pg_name (i := 3) nd rfl (Or.inl rfl) (.inr rfl)) (fun _ _ _ _ _ => pts_nil) (fun _ _ _ _ _ => pe_cmpR opInSg (pv 3) (pe_gstr s_DIGITS rfl) (by rfl))) (pa_nil))) (by intro _; rfl)))))) (pss_one (ps_ret (pe_bl))) (pss_nil))
 (pss_one (ps_ret (pe_and (pe_or (pe_cmpR (eqK (K := K) rfl (room64 hr)) (pv 0) (pe_str) (nomark _)) (pe_one (pe_cmpR (neK (K := K) rfl (room64 hr)) (pe_ix (ixK (K := K) rfl) (pv 0) (pe_int) (fun _ _ => rfl)) (pe_str) (nomark _)))) (pe_one (pe_chain op_le op_le (pv 1) (pe_callTy callINTS rfl g_int bt_int (pa_cons (pv 0) (pa_nil))) (pv 2))))))), ?_⟩
  refine body_x nm_is_decimal ?_ vs H Q E h
  clear h hr
  intro c n x hK hp
  (subst hK)
  try clear i_MOST_DIGITS g_all g_len s_DIGITS g_int F
  obtain ⟨v, lo, hh⟩ := x
  have hv : v < 10 ^ 31 := hp
  have l1 := txN_pos v
  have l2 := txN_le (k := 31) (by decide) hv
  have l3 : (txN v).length ≤ sizeLine := Nat.le_trans l2 (by rw [sizeLine_eq]; decide)
  dsimp only
  walk_at "WK"
  refine ⟨l3, ?_⟩
  walk_at "WK"
  refine ⟨fun _ => ?_, fun c1 => absurd (of_decide_eq_false c1) (by omega)⟩
  walk_at "WK"
  rw [decide_eq_true (show ((txN v).length : Int) ≤ 31 by omega)]
  refine ⟨fun _ => ?_, fun z => (nomatch z)⟩
  walk_at "WK"
  refine wp_new (wn_lc (fun v hv => ?_) (wi_str ?_))
  · have : v = 3 := by simpa using hv
    subst this
    exact Nat.le_of_ble_eq_true rfl
  walk_at "WK"
  refine ⟨txN v, rfl, ?_⟩
  refine ⟨fun i acc m' => m' = n ∧ acc = (List.replicate i true).map PyData.bool, ⟨rfl, rfl⟩, by rw [signs_len]; exact Nat.lt_of_le_of_lt l2 (by decide), ?_, ?_⟩
  · rintro i acc m' d hd ⟨rfl, rfl⟩
    obtain ⟨s, _, hs, rfl⟩ := signs_item hd
    refine wg_name ⟨rfl, ?_⟩ (Nat.le_of_ble_eq_true rfl) (by decide)
    refine wt_yes ⟨fun _ => ?_, fun z => nomatch z⟩
    walk_at "WK"
    refine rw_inSg ?_
    rw [digit_in hs]
    refine ⟨rfl, ?_⟩
    rw [List.replicate_succ', List.map_append]
    rfl
  rintro acc m' ⟨rfl, rfl⟩
  walk_at "WK"
  refine cw_all rfl (one_mk (ls_py ⟨_, rfl, ?_⟩))
  have e : (List.replicate (signs (txN v)).length true).all id = true := List.all_eq_true.mpr fun b hb => by rw [List.eq_of_mem_replicate hb]; rfl
  dsimp only
  rw [e]
  walk_at "WK"
  refine ⟨fun z => (nomatch z), fun _ => ?_⟩
  walk_at "WK"
  refine ⟨shp_str (txN_ok v), shp_str (by decide +kernel), ?_⟩
  rw [eqv_strD, txN_zero]
  have rest : Wp c (tChain (rI0 fun i j => V.bl (decide (i ≤ j))) (rI0 fun i j => V.bl (decide (i ≤ j))) (tVar 1) (tCB rINTS (tCons (tVar 0) tNil)) (tVar 2)) ⟨[.val (.py (.str (txN v))), .val (.py (.int lo)), .val (.py (.int hh)), .emp], m'⟩ fun d n => frz d = .py (.bool (decide (lo ≤ v ∧ (v : Int) ≤ hh))) ∧ n = m' := by
    walk_at "WK"
    refine cw_intS (one_mk ⟨_, _, rfl, txN_int (Nat.lt_of_lt_of_le hv (by decide)), Nat.le_trans l2 (by decide), ?_⟩)
    walk_at "WK"
    refine ⟨fun q1 => ?_, fun q1 => ?_⟩
    · have q1' := of_decide_eq_true q1
      walk_at "WK"
      refine ⟨?_, rfl⟩
      show D.py (.bool (decide ((v : Int) ≤ hh))) = _
      simp [q1']
    · have q1' := of_decide_eq_false q1
      refine ⟨?_, rfl⟩
      show D.py (.bool false) = _
      simp [q1']
  refine ⟨fun q0 => ?_, fun q0 => ?_⟩
  · have q0' := of_decide_eq_false q0
    obtain ⟨ch, r, e1, h1, h2, h3⟩ := num_head v
    walk_at "WK"
    refine ⟨l3, ch, atI_nat (by rw [txN_cps, e1]; rfl), ?_⟩
    walk_at "WK"
    have ok1 : PyData.strOk ⟨#[ch]⟩ = true := by
      unfold PyData.strOk
      rw [Array.all_eq_true_iff_forall_mem]
      intro x hx
      have hx' : x = ch := by simpa using hx
      exact decide_eq_true (by omega)
    refine ⟨shp_str ok1, shp_str (by decide +kernel), ?_⟩
    have ne : ¬ ((⟨#[ch]⟩ : Str) = Str.ofString "0") := fun z => by
      have e2 : (⟨#[ch]⟩ : Str).cps.toList = (Str.ofString "0").cps.toList := by rw [z]
      have e3 : [ch] = [48] := e2.trans (by decide +kernel)
      exact q0' (h3 (List.cons.inj e3).1)
    rw [eqv_strD, decide_eq_false ne]
    walk_at "WK"
    refine ⟨fun _ => ?_, fun z => (nomatch z)⟩
    exact rest
  · walk_at "WK"
    refine ⟨fun _ => ?_, fun z => (nomatch z)⟩
    exact rest
end
end Wx

/-! ### part T2 -/
set_option Elab.async false
set_option linter.all false
set_option maxRecDepth 100000
set_option maxHeartbeats 1000000
set_option autoImplicit false
namespace Wx
open PySem L2
theorem shp_sg {l : List Nat} (h : ∀ x ∈ l, x < 1000) : SeqAt.shaped (.str (sg l)) = true := shp_str (sg_ok h)
theorem shp_wd (w : Wd) : SeqAt.shaped (.str w.tx) = true := shp_str (wd_ok w)
theorem eqv_sg (a b : List Nat) : PyData.eqv (.str (sg a)) (.str (sg b)) = decide (a = b) := by
  rw [eqv_strD, decide_eq_decide]
  exact ⟨sg_inj, fun z => by rw [z]⟩
theorem txt_m : Str.ofString "-" = sg [45] := by decide +kernel
theorem txt_p : Str.ofString "p" = sg [112] := by decide +kernel
theorem txt_r : Str.ofString "r" = sg [114] := by decide +kernel
theorem txt_d : Str.ofString "d" = sg [100] := by decide +kernel

section
variable {P : Program} {w : World} {K : PySem.W.Frag} {mg : Str → Option Value} {base : Heap} {f C : Addr} {fd : FuncData}
abbrev sp_is_constant_word (K : PySem.W.Frag) : Sp := SpX (ι := Int) K (fun v => [.py (.str (Wd.c v).tx)]) (fun v _ => okWd (.c v)) fun x n d m => d = .py (.bool true) ∧ m = n
theorem ln_is_constant_word (v : Int) : [D.py (.str (Wd.c v).tx)].length = 1 := rfl
theorem nm_is_constant_word (v : Int) : [D.py (.str (Wd.c v).tx)].all D.nm = true := rfl
theorem sc_is_constant_word : FnScope ["word"] ["word"] (defScope (top 22)) := ⟨rfl, rfl, rfl, by decide +kernel, rfl, by decide +kernel, by decide +kernel⟩
theorem ok_is_constant_word (F : FnP K "is_constant_word" "is_constant_word" (top 22) f fd) (S_is_decimal : Std P w K mg base 1 "is_decimal" ["signs", "low", "high"] (sp_is_decimal K)) (i_GREATEST : GInt mg "GREATEST" (10 ^ 30)) : FnOk P w K mg base CX0 2 f fd ["word"] (sp_is_constant_word K) := by
  refine F.ok sc_is_constant_word (sx_len ln_is_constant_word) (fun cdv A outer s H vs Q E hr h => ?_)
  have nd := sc_is_constant_word.nd
  refine ⟨_, PSs.nox (pss_one (ps_ret (pe_ifExp (pt_cmpR (eqK (K := K) rfl (room64 hr)) (pe_slice (slK (K := K) rfl) (pv 0) po_none (po_some (pe_int))) (pe_str) (nomark _)) (pe_std S_is_decimal hr rfl (pa_cons (pe_slice (slK (K := K) rfl) (pv 0) (po_some (pe_int)) po_none) (pa_cons (pe_int) (pa_cons (pe_gint i_GREATEST rfl) (pa_nil))))) (pe_std S_is_decimal hr rfl (pa_cons (pv 0) (pa_cons (pe_int) (pa_cons (pe_gint i_GREATEST rfl) (pa_nil)))))))), ?_⟩
  refine body_x nm_is_constant_word ?_ vs H Q E h
  clear h hr
  intro c n x hK hp
  (subst hK)
  try clear S_is_decimal i_GREATEST F
  have hx : -(10 ^ 30) ≤ x ∧ x ≤ 10 ^ 30 := hp
  have hw := wd_len (w := .c x) hp
  have l3 : (Wd.c x).tx.length ≤ sizeLine := by unfold Wd.tx; rw [sg_len]; exact Nat.le_trans hw.2 (by rw [sizeLine_eq]; decide)
  walk_at "WK"
  refine ⟨l3, ?_⟩
  by_cases hn : x < 0
  · have e : (Wd.c x).tx.cps.toList = 45 :: TL.numL x.natAbs := by
      show (Wd.c x).sg = _
      rw [wd_c, if_pos hn]
    rw [cut_head _ e, txt_m]
    walk_at "WK"
    refine ⟨fun _ => ?_, fun z => absurd z (by decide)⟩
    walk_at "WK"
    refine ⟨l3, ?_⟩
    rw [cut_tail _ e, ← txN_sg]
    walk_at "WK"
    refine ⟨(x.natAbs, 1, 10 ^ 30), rfl, by show x.natAbs < 10 ^ 31; omega, ?_⟩
    rintro d m ⟨rfl, rfl⟩
    refine ⟨rfl, ?_, rfl⟩
    show D.py (.bool (decide ((1 : Int) ≤ (x.natAbs : Int) ∧ (x.natAbs : Int) ≤ 10 ^ 30))) = _
    rw [decide_eq_true (by omega)]
  · obtain ⟨ch, r, e1, h1, h2, _⟩ := num_head x.natAbs
    have e0 : (Wd.c x).sg = TL.numL x.natAbs := by rw [wd_c, if_neg hn]
    have e : (Wd.c x).tx.cps.toList = ch :: r := by
      show (Wd.c x).sg = _
      rw [e0, e1]
    rw [cut_head _ e, txt_m]
    walk_at "WK"
    refine ⟨shp_sg (by simp; omega), shp_sg (by simp), ?_⟩
    rw [eqv_sg, decide_eq_false (fun z => by have := (List.cons.inj z).1; omega)]
    refine ⟨fun z => (nomatch z), fun _ => ?_⟩
    walk_at "WK"
    refine ⟨(x.natAbs, 0, 10 ^ 30), ?_, by show x.natAbs < 10 ^ 31; omega, ?_⟩
    · show [D.py (.str (sg (Wd.c x).sg)), _, _] = [D.py (.str (txN x.natAbs)), _, _]
      rw [e0, ← txN_sg]
      rfl
    rintro d m ⟨rfl, rfl⟩
    refine ⟨rfl, ?_, rfl⟩
    show D.py (.bool (decide ((0 : Int) ≤ (x.natAbs : Int) ∧ (x.natAbs : Int) ≤ 10 ^ 30))) = _
    rw [decide_eq_true (by omega)]
abbrev sp_is_instruction (K : PySem.W.Frag) : Sp := SpX (ι := Wd) K (fun w => [.py (.str w.tx)]) (fun w _ => okWd w) fun x n d m => d = .py (.bool true) ∧ m = n
theorem ln_is_instruction (w : Wd) : [D.py (.str w.tx)].length = 1 := rfl
theorem nm_is_instruction (w : Wd) : [D.py (.str w.tx)].all D.nm = true := rfl
theorem sc_is_instruction : FnScope ["word"] ["word"] (defScope (top 23)) := ⟨rfl, rfl, rfl, by decide +kernel, rfl, by decide +kernel, by decide +kernel⟩
theorem ok_is_instruction (F : FnP K "is_instruction" "is_instruction" (top 23) f fd) (S_is_decimal : Std P w K mg base 1 "is_decimal" ["signs", "low", "high"] (sp_is_decimal K)) (i_MOST_HIGH : GInt mg "MOST_HIGH" 100) (S_is_constant_word : Std P w K mg base 2 "is_constant_word" ["word"] (sp_is_constant_word K)) : FnOk P w K mg base CX0 3 f fd ["word"] (sp_is_instruction K) := by
  refine F.ok sc_is_instruction (sx_len ln_is_instruction) (fun cdv A outer s H vs Q E hr h => ?_)
  have nd := sc_is_instruction.nd
  refine ⟨_, PSs.nox (pss_cons (ps_if (pt_cmpR (eqK (K := K) rfl (room64 hr)) (pe_slice (slK (K := K) rfl) (pv 0) po_none (po_some (pe_int))) (pe_str) (nomark _)) (pss_one (ps_ret (pe_std S_is_decimal (hr.mono (by decide)) rfl (pa_cons (pe_slice (slK (K := K) rfl) (pv 0) (po_some (pe_int)) po_none) (pa_cons (pe_int) (pa_cons (pe_op op_sub (pe_gint i_MOST_HIGH rfl) (pe_int)) (pa_nil))))))) (pss_nil))
 (pss_cons (ps_if (pt_cmpR (eqK (K := K) rfl (room64 hr)) (pe_slice (slK (K := K) rfl) (pv 0) po_none (po_some (pe_int))) (pe_str) (nomark _)) (pss_one (ps_ret (pe_std S_is_decimal (hr.mono (by decide)) rfl (pa_cons (pe_slice (slK (K := K) rfl) (pv 0) (po_some (pe_int)) po_none) (pa_cons (pe_int) (pa_cons (pe_op op_sub (pe_gint i_MOST_HIGH rfl) (pe_int)) (pa_nil))))))) (pss_nil))
 (pss_one (ps_ret (pe_or (pe_cmpR (eqK (K := K) rfl (room64 hr)) (pv 0) (pe_str) (nomark _)) (pe_one (pe_std S_is_constant_word hr rfl (pa_cons (pv 0) (pa_nil))))))))), ?_⟩
  refine body_x nm_is_instruction ?_ vs H Q E h
  clear h hr
  intro c n x hK hp
  (subst hK)
  try clear S_is_decimal i_MOST_HIGH S_is_constant_word F
  have hw := wd_len hp
  have l3 : x.tx.length ≤ sizeLine := by unfold Wd.tx; rw [sg_len]; exact Nat.le_trans hw.2 (by rw [sizeLine_eq]; decide)
  cases x with
  | p v =>
    have hv : v ≤ 98 := hp
    have e : (Wd.p v).tx.cps.toList = 112 :: TL.numL v := rfl
    walk_at "WK"
    refine ⟨l3, ?_⟩
    rw [cut_head _ e, txt_p]
    walk_at "WK"
    walk_at "WK"
    refine ⟨fun _ => ?_, fun z => absurd z (by decide)⟩
    walk_at "WK"
    refine ⟨l3, ?_⟩
    rw [cut_tail _ e, ← txN_sg]
    walk_at "WK"
    refine ⟨(v, 0, 100 - 2), rfl, by show v < 10 ^ 31; omega, ?_⟩
    rintro d m ⟨rfl, rfl⟩
    refine ⟨rfl, ?_, rfl⟩
    show D.py (.bool (decide ((0 : Int) ≤ (v : Int) ∧ (v : Int) ≤ 100 - 2))) = _
    rw [decide_eq_true (by omega)]
  | r v =>
    have hv : 1 ≤ v ∧ v ≤ 99 := hp
    have e : (Wd.r v).tx.cps.toList = 114 :: TL.numL v := rfl
    walk_at "WK"
    refine ⟨l3, ?_⟩
    rw [cut_head _ e, txt_p]
    walk_at "WK"
    walk_at "WK"
    refine ⟨fun z => absurd z (by decide), fun _ => ?_⟩
    walk_at "WK"
    refine ⟨l3, ?_⟩
    rw [cut_head _ e, txt_r]
    walk_at "WK"
    walk_at "WK"
    refine ⟨fun _ => ?_, fun z => absurd z (by decide)⟩
    walk_at "WK"
    refine ⟨l3, ?_⟩
    rw [cut_tail _ e, ← txN_sg]
    walk_at "WK"
    refine ⟨(v, 1, 100 - 1), rfl, by show v < 10 ^ 31; omega, ?_⟩
    rintro d m ⟨rfl, rfl⟩
    refine ⟨rfl, ?_, rfl⟩
    show D.py (.bool (decide ((1 : Int) ≤ (v : Int) ∧ (v : Int) ≤ 100 - 1))) = _
    rw [decide_eq_true (by omega)]
  | d =>
    have e : Wd.d.tx.cps.toList = 100 :: [] := rfl
    walk_at "WK"
    refine ⟨l3, ?_⟩
    rw [cut_head _ e, txt_p]
    walk_at "WK"
    walk_at "WK"
    refine ⟨fun z => absurd z (by decide), fun _ => ?_⟩
    walk_at "WK"
    refine ⟨l3, ?_⟩
    rw [cut_head _ e, txt_r]
    walk_at "WK"
    walk_at "WK"
    refine ⟨fun z => absurd z (by decide), fun _ => ?_⟩
    walk_at "WK"
    refine ⟨fun z => absurd z (by decide), fun _ => ?_⟩
    exact ⟨rfl, rfl⟩
  | c v =>
    have hv : -(10 ^ 30) ≤ v ∧ v ≤ 10 ^ 30 := hp
    obtain ⟨ch, r, e, h1, h2⟩ : ∃ ch r, (Wd.c v).sg = ch :: r ∧ 45 ≤ ch ∧ ch ≤ 57 := by
      rw [wd_c]
      split
      · exact ⟨45, _, rfl, by decide, by decide⟩
      · obtain ⟨ch, r, e1, h1, h2, _⟩ := num_head v.natAbs
        exact ⟨ch, r, e1, by omega, h2⟩
    have e' : (Wd.c v).tx.cps.toList = ch :: r := e
    walk_at "WK"
    refine ⟨l3, ?_⟩
    rw [cut_head _ e', txt_p]
    walk_at "WK"
    refine ⟨shp_sg (by simp; omega), shp_sg (by simp), ?_⟩
    rw [eqv_sg, decide_eq_false (fun z => by have := (List.cons.inj z).1; omega)]
    walk_at "WK"
    refine ⟨fun z => (nomatch z), fun _ => ?_⟩
    walk_at "WK"
    refine ⟨l3, ?_⟩
    rw [cut_head _ e', txt_r]
    walk_at "WK"
    refine ⟨shp_sg (by simp; omega), shp_sg (by simp), ?_⟩
    rw [eqv_sg, decide_eq_false (fun z => by have := (List.cons.inj z).1; omega)]
    walk_at "WK"
    refine ⟨fun z => (nomatch z), fun _ => ?_⟩
    walk_at "WK"
    refine ⟨shp_wd (.c v), shp_str (by decide +kernel), ?_⟩
    rw [txt_d, show (Wd.c v).tx = sg (Wd.c v).sg from rfl, eqv_sg, decide_eq_false (fun z => by rw [e] at z; have := (List.cons.inj z).1; omega)]
    walk_at "WK"
    refine ⟨fun _ => ?_, fun z => (nomatch z)⟩
    walk_at "WK"
    refine ⟨v, rfl, hp, ?_⟩
    rintro d m ⟨rfl, rfl⟩
    exact ⟨rfl, rfl, rfl⟩
end
end Wx

/-! ### part T3 -/
set_option Elab.async false
set_option linter.all false
set_option maxRecDepth 100000
set_option maxHeartbeats 1000000
set_option autoImplicit false
namespace Wx
open PySem L2
/-! ## split -/
def rSplit1 : V → List V → Hp → VK → Prop := fun x xs H Q => ∃ a b, x = .str a ∧ xs = [.str b] ∧ (b.length == 0) = false ∧ a.length + 2 ≤ sizeLine ∧ rNewStrs (Txt.split a b) H Q
theorem pe_splitS {X : Cx} {o e : Expr} {to te : TE} {apos pos : Pos} (ho : PE X o to) (he : PE X e te) (hs : starEach [e] X.env = [(false, eval e X.env)] := by rfl) (hbase : attributeBase o "split" X.env (eval o X.env) = eval o X.env := by rfl) (hline : (apos.endLine == pos.line) = true := by rfl) :
    PE X (.Call (.Attribute o "split" apos) [e] [] pos) (tM1 rSplit1 to te) := pe_split ho he hs hbase hline
theorem da_strs2 {K : PySem.W.Frag} {S : Addr → Prop} {H : Hp} : ∀ ys : List Str, DaL K S H (ys.map V.str) (ys.map PyData.str)
  | [] => .nil
  | y :: ys => .cons (.str y) (da_strs2 ys)
theorem wn_split {c : Cy} {sl : List Slo} {nn : Nat} {to te : TE} {Ψ : Ow → Nat → Prop} (h : Wp c to ⟨sl, nn⟩ fun d n => ∃ a, d = .py (.str a) ∧ Wp c te ⟨sl, n⟩ fun d2 m => ∃ b, d2 = .py (.str b) ∧ (b.length == 0) = false ∧ a.length + 2 ≤ sizeLine ∧ Ψ (.lst ((Txt.split a b).map PyData.str)) m) : Wn c (tM1 rSplit1 to te) ⟨sl, nn⟩ Ψ := ⟨fun σ A H o Q k => by
  refine h.run σ A H o _ fun v H1 d n p e1 g1 x => ?_
  obtain ⟨a, rfl, p⟩ := p
  cases Da.str_eq x
  refine ⟨⟨a, rfl⟩, p.run σ A H1 (o.keep e1 g1) _ fun w H2 d2 m q e2 g2 x2 => ?_⟩
  obtain ⟨b, rfl, hb, hz, q⟩ := q
  cases Da.str_eq x2
  refine ⟨a, b, rfl, rfl, hb, hz, fun p hp => ?_⟩
  exact k p _ _ m q ((e1.trans e2).trans (Ek.new hp)) (g2.new hp) (fresh_of (e1.trans e2) g2 hp) ⟨_, upd_same, da_strs2 _⟩⟩
/-! ## the text of words -/
def joinW (ws : List Wd) : Str := Txt.join (Str.ofString " ") (ws.map Wd.tx)
def wtx (ws : List Wd) : List PyData := ws.map fun w => .str w.tx
theorem split_joinW {ws : List Wd} (h : ws ≠ []) : Txt.split (joinW ws) (Str.ofString " ") = ws.map Wd.tx := by
  refine TL.split_join (s := 32) (S := []) (by decide +kernel) (by decide +kernel) (fun z => h (List.map_eq_nil_iff.mp z)) fun p hp => ?_
  obtain ⟨w, _, rfl⟩ := List.mem_map.mp hp
  intro hm
  have := wd_sign (w := w) (x := 32) hm
  omega
theorem join_sum (y : Str) : ∀ ps : List Str, (Str.join y ps).length ≤ (ps.map (·.length)).sum + ps.length * y.length
  | [] => Nat.zero_le _
  | [p] => by
    show p.length ≤ p.length + 0 + 1 * y.length
    omega
  | p :: q :: r => by
    have ih := join_sum y (q :: r)
    show (p ++ y ++ Str.join y (q :: r)).length ≤ _
    rw [PySem.Str.length_append, PySem.Str.length_append]
    simp only [List.map_cons, List.sum_cons, List.length_cons] at ih ⊢
    have : (r.length + 1 + 1) * y.length = (r.length + 1) * y.length + y.length := by rw [Nat.add_mul, Nat.one_mul]
    omega
theorem sumW {ws : List Wd} (h : ∀ w ∈ ws, okWd w) : ((ws.map Wd.tx).map (·.length)).sum ≤ 33 * ws.length := by
  induction ws with
  | nil => exact Nat.le_refl _
  | cons w ws ih =>
    have h1 := (wd_len (h w List.mem_cons_self)).2
    have h2 := ih fun x hx => h x (List.mem_cons_of_mem _ hx)
    simp only [List.map_cons, List.sum_cons, List.length_cons]
    have : w.tx.length = w.sg.length := sg_len _
    omega
theorem joinW_len {ws : List Wd} (h : ∀ w ∈ ws, okWd w) : (joinW ws).length ≤ 34 * ws.length := by
  have h1 := join_sum (Str.ofString " ") (ws.map Wd.tx)
  have h2 := sumW h
  have e : joinW ws = Str.join (Str.ofString " ") (ws.map Wd.tx) := TL.join_eq _ _
  rw [e]
  rw [show (Str.ofString " ").length = 1 by decide +kernel, List.length_map] at h1
  omega
theorem joinW_nil : joinW [] = Str.ofString "" := by decide +kernel
theorem joinW_ne {ws : List Wd} (h : ws ≠ []) : ¬ joinW ws = Str.ofString "" := fun e => by
  have h1 := split_joinW h
  rw [e] at h1
  cases ws with
  | nil => exact h rfl
  | cons w ws =>
    have h2 : Txt.split (Str.ofString "") (Str.ofString " ") = [Str.ofString ""] := by decide +kernel
    rw [h2, List.map_cons] at h1
    have h3 := (List.cons.inj h1).1
    have h4 : (Str.ofString "").cps.toList = w.sg := by rw [h3]; rfl
    have h5 : w.sg ≠ [] := by
      cases w with
      | d => exact fun z => nomatch z
      | p n => exact fun z => nomatch z
      | r n => exact fun z => nomatch z
      | c v =>
        rw [wd_c]
        split
        · exact fun z => nomatch z
        · exact TL.numL_ne _
    exact h5 (h4.symm.trans (by decide +kernel))
theorem joinW_ok (ws : List Wd) : PyData.strOk (joinW ws) = true := by
  unfold PyData.strOk
  rw [Array.all_eq_true_iff_forall_mem]
  have e : joinW ws = Str.join (Str.ofString " ") (ws.map Wd.tx) := TL.join_eq _ _
  rw [e]
  have w : ∀ (l : List Wd) (ch : Nat), ch ∈ (Str.join (Str.ofString " ") (l.map Wd.tx)).cps.toList → ch < 1000 := fun l => by
    induction l with
    | nil => intro ch h; cases h
    | cons a l ih =>
      intro ch h
      cases l with
      | nil =>
        have := wd_sign (w := a) (x := ch) h
        omega
      | cons b l =>
        have h' : ch ∈ (a.tx ++ Str.ofString " " ++ Str.join (Str.ofString " ") ((b :: l).map Wd.tx)).cps.toList := h
        have app : ∀ x y : Str, (x ++ y).cps.toList = x.cps.toList ++ y.cps.toList := fun x y => by
          show (x.cps ++ y.cps).toList = _
          simp
        rw [app, app] at h'
        rcases List.mem_append.mp h' with h' | h'
        · rcases List.mem_append.mp h' with h' | h'
          · have := wd_sign (w := a) (x := ch) h'
            omega
          · have : ch = 32 := by
              have h2 : (Str.ofString " ").cps.toList = [32] := by decide +kernel
              rw [h2] at h'
              exact List.mem_singleton.mp h'
            omega
        · exact ih ch h'
  intro ch hc
  have := w ws ch (by simpa using hc)
  exact decide_eq_true (by omega)

section
variable {P : Program} {w : World} {K : PySem.W.Frag} {mg : Str → Option Value} {base : Heap} {f C : Addr} {fd : FuncData}
abbrev sp_words_of (K : PySem.W.Frag) : Sp := SpX (ι := List Wd) K (fun ws => [.py (.str (joinW ws))]) (fun ws _ => ws.length ≤ 1000 ∧ ∀ w ∈ ws, okWd w) fun ws n d m => d = .py (.list (wtx ws)) ∧ m = n
theorem ln_words_of (ws : List Wd) : [D.py (.str (joinW ws))].length = 1 := rfl
theorem nm_words_of (ws : List Wd) : [D.py (.str (joinW ws))].all D.nm = true := rfl
theorem sc_words_of : FnScope ["text"] ["text"] (defScope (top 25)) := ⟨rfl, rfl, rfl, by decide +kernel, rfl, by decide +kernel, by decide +kernel⟩
theorem ok_words_of (F : FnP K "words_of" "words_of" (top 25) f fd)  : FnOk P w K mg base CX0 1 f fd ["text"] (sp_words_of K) := by
  refine F.ok sc_words_of (sx_len ln_words_of) (fun cdv A outer s H vs Q E hr h => ?_)
  have nd := sc_words_of.nd
  refine ⟨_, PSs.nox (pss_one (ps_ret (pe_ifExp (pt_cmpR (neK (K := K) rfl (room64 hr)) (pv 0) (pe_str) (nomark _)) (pe_splitS (pv 0) (pe_str)) (pe_lst (pa_nil))))), ?_⟩
  refine body_x nm_words_of ?_ vs H Q E h
  clear h hr
  intro c n x hK hp
  (subst hK)
  try clear F
  obtain ⟨h1, h2⟩ : x.length ≤ 1000 ∧ ∀ w ∈ x, okWd w := hp
  walk_at "WK"
  refine ⟨shp_str (joinW_ok x), shp_str (by decide +kernel), ?_⟩
  rw [eqv_strD]
  by_cases e : x = []
  · subst e
    rw [decide_eq_true joinW_nil]
    refine ⟨fun z => (nomatch z), fun _ => ?_⟩
    walk_at "WK"
    first | exact ⟨rfl, rfl⟩ | exact rfl
  · rw [decide_eq_false (joinW_ne e)]
    refine ⟨fun _ => ?_, fun z => (nomatch z)⟩
    refine wp_new (wn_split ?_)
    walk_at "WK"
    refine ⟨_, rfl, ?_⟩
    walk_at "WK"
    have hl := joinW_len h2
    refine ⟨_, rfl, by decide +kernel, Nat.le_trans (show _ ≤ 34002 by omega) (by rw [sizeLine_eq]; decide), ?_⟩
    rw [split_joinW e, List.map_map]
    exact ⟨rfl, rfl⟩
theorem at0 {l : List Nat} {c : Nat} {r : List Nat} (h : l = c :: r) : atI l 0 = some c := by
  subst h
  exact atI_nat (show (c :: r)[0]? = some c from rfl)
def mW : Wd → Int × Int × Int
  | .d => (1, 0, -1)
  | .p n => ((n : Int) + 1, 1, 1)
  | .r n => ((n : Int) + 1, 0, 0)
  | .c _ => (0, 1, 1)
abbrev t3 (m : Int × Int × Int) : PyData := .tuple [.int m.1, .int m.2.1, .int m.2.2]
abbrev sp_measure_of (K : PySem.W.Frag) : Sp := SpX (ι := Wd) K (fun w => [.py (.str w.tx)]) (fun w _ => okWd w) fun w n d m => d = .py (t3 (mW w)) ∧ m = n
theorem ln_measure_of (w : Wd) : [D.py (.str w.tx)].length = 1 := rfl
theorem nm_measure_of (w : Wd) : [D.py (.str w.tx)].all D.nm = true := rfl
theorem sc_measure_of : FnScope ["word"] ["word"] (defScope (top 24)) := ⟨rfl, rfl, rfl, by decide +kernel, rfl, by decide +kernel, by decide +kernel⟩
theorem ok_measure_of (F : FnP K "measure_of" "measure_of" (top 24) f fd) (g_int : mg "int" = none) : FnOk P w K mg base CX0 1 f fd ["word"] (sp_measure_of K) := by
  refine F.ok sc_measure_of (sx_len ln_measure_of) (fun cdv A outer s H vs Q E hr h => ?_)
  have nd := sc_measure_of.nd
  refine ⟨_, PSs.nox (pss_cons (ps_if (pt_cmpR (eqK (K := K) rfl (room64 hr)) (pe_ix (ixK (K := K) rfl) (pv 0) (pe_int) (fun _ _ => rfl)) (pe_str) (nomark _)) (pss_one (ps_ret (pe_tup (pa_cons (pe_op (addK (K := K) rfl) (pe_callTy callINTS rfl g_int bt_int (pa_cons (pe_slice (slK (K := K) rfl) (pv 0) (po_some (pe_int)) po_none) (pa_nil))) (pe_int)) (pa_cons (pe_int) (pa_cons (pe_int) (pa_nil))))))) (pss_nil))
 (pss_cons (ps_if (pt_cmpR (eqK (K := K) rfl (room64 hr)) (pe_ix (ixK (K := K) rfl) (pv 0) (pe_int) (fun _ _ => rfl)) (pe_str) (nomark _)) (pss_one (ps_ret (pe_tup (pa_cons (pe_op (addK (K := K) rfl) (pe_callTy callINTS rfl g_int bt_int (pa_cons (pe_slice (slK (K := K) rfl) (pv 0) (po_some (pe_int)) po_none) (pa_nil))) (pe_int)) (pa_cons (pe_int) (pa_cons (pe_int) (pa_nil))))))) (pss_nil))
 (pss_one (ps_ret (pe_ifExp (pt_cmpR (eqK (K := K) rfl (room64 hr)) (pv 0) (pe_str) (nomark _)) (pe_tup (pa_cons (pe_int) (pa_cons (pe_int) (pa_cons (pe_un un_neg (pe_int)) (pa_nil))))) (pe_tup (pa_cons (pe_int) (pa_cons (pe_int) (pa_cons (pe_int) (pa_nil)))))))))), ?_⟩
  refine body_x nm_measure_of ?_ vs H Q E h
  clear h hr
  intro c n x hK hp
  (subst hK)
  try clear g_int F
  have hw := wd_len hp
  have l3 : x.tx.length ≤ sizeLine := by unfold Wd.tx; rw [sg_len]; exact Nat.le_trans hw.2 (by rw [sizeLine_eq]; decide)
  cases x with
  | p v =>
    have hv : v ≤ 98 := hp
    have e : (Wd.p v).tx.cps.toList = 112 :: TL.numL v := rfl
    walk_at "WK"
    refine ⟨l3, 112, at0 rfl, ?_⟩
    walk_at "WK"
    refine ⟨fun _ => ?_, fun z => absurd z (by decide)⟩
    walk_at "WK"
    refine ⟨l3, ?_⟩
    rw [cut_tail _ e, ← txN_sg]
    walk_at "WK"
    refine cw_intS (one_mk ⟨_, _, rfl, txN_int (show v < 10 ^ 200 by omega), Nat.le_trans (txN_le (k := 31) (by decide) (show v < 10 ^ 31 by omega)) (by decide), ?_⟩)
    walk_at "WK"
    first | exact ⟨rfl, rfl⟩ | exact rfl
  | r v =>
    have hv : 1 ≤ v ∧ v ≤ 99 := hp
    have e : (Wd.r v).tx.cps.toList = 114 :: TL.numL v := rfl
    walk_at "WK"
    refine ⟨l3, 114, at0 rfl, ?_⟩
    walk_at "WK"
    refine ⟨fun z => absurd z (by decide), fun _ => ?_⟩
    walk_at "WK"
    refine ⟨l3, 114, at0 rfl, ?_⟩
    walk_at "WK"
    refine ⟨fun _ => ?_, fun z => absurd z (by decide)⟩
    walk_at "WK"
    refine ⟨l3, ?_⟩
    rw [cut_tail _ e, ← txN_sg]
    walk_at "WK"
    refine cw_intS (one_mk ⟨_, _, rfl, txN_int (show v < 10 ^ 200 by omega), Nat.le_trans (txN_le (k := 31) (by decide) (show v < 10 ^ 31 by omega)) (by decide), ?_⟩)
    walk_at "WK"
    first | exact ⟨rfl, rfl⟩ | exact rfl
  | d =>
    walk_at "WK"
    refine ⟨l3, 100, at0 rfl, ?_⟩
    walk_at "WK"
    refine ⟨fun z => absurd z (by decide), fun _ => ?_⟩
    walk_at "WK"
    refine ⟨l3, 100, at0 rfl, ?_⟩
    walk_at "WK"
    refine ⟨fun z => absurd z (by decide), fun _ => ?_⟩
    walk_at "WK"
    refine ⟨fun _ => ?_, fun z => absurd z (by decide)⟩
    walk_at "WK"
    first | exact ⟨rfl, rfl⟩ | exact rfl
  | c v =>
    have hv : -(10 ^ 30) ≤ v ∧ v ≤ 10 ^ 30 := hp
    obtain ⟨ch, r, e, h1, h2⟩ : ∃ ch r, (Wd.c v).sg = ch :: r ∧ 45 ≤ ch ∧ ch ≤ 57 := by
      rw [wd_c]
      split
      · exact ⟨45, _, rfl, by decide, by decide⟩
      · obtain ⟨ch, r, e1, h1, h2, _⟩ := num_head v.natAbs
        exact ⟨ch, r, e1, by omega, h2⟩
    have hat : atI (Wd.c v).tx.cps.toList 0 = some ch := at0 e
    walk_at "WK"
    refine ⟨l3, ch, hat, ?_⟩
    walk_at "WK"
    rw [txt_p]
    refine ⟨shp_sg (l := [ch]) (by simp; omega), shp_sg (by simp), ?_⟩
    rw [show (⟨#[ch]⟩ : Str) = sg [ch] from rfl, eqv_sg, decide_eq_false (fun z => by have := (List.cons.inj z).1; omega)]
    walk_at "WK"
    refine ⟨fun z => (nomatch z), fun _ => ?_⟩
    walk_at "WK"
    refine ⟨l3, ch, hat, ?_⟩
    walk_at "WK"
    rw [txt_r]
    refine ⟨shp_sg (l := [ch]) (by simp; omega), shp_sg (by simp), ?_⟩
    rw [show (⟨#[ch]⟩ : Str) = sg [ch] from rfl, eqv_sg, decide_eq_false (fun z => by have := (List.cons.inj z).1; omega)]
    walk_at "WK"
    refine ⟨fun z => (nomatch z), fun _ => ?_⟩
    walk_at "WK"
    rw [txt_d]
    refine ⟨shp_wd (.c v), shp_sg (by simp), ?_⟩
    rw [show (Wd.c v).tx = sg (Wd.c v).sg from rfl, eqv_sg, decide_eq_false (fun z => by rw [e] at z; have := (List.cons.inj z).1; omega)]
    walk_at "WK"
    refine ⟨fun z => (nomatch z), fun _ => ?_⟩
    walk_at "WK"
    first | exact ⟨rfl, rfl⟩ | exact rfl
end
end Wx

/-! ### part T4 -/
set_option Elab.async false
set_option linter.all false
set_option maxRecDepth 100000
set_option maxHeartbeats 1000000
set_option autoImplicit false
/-! enumerate of a list. -/
namespace Wx
open PySem L2
section
variable {c : Cy} {sl : List Slo} {nn : Nat} {ta : TA} {K : PySem.W.Frag} {m : Bool} {Θ : List D → Nat → Prop}
theorem Da.lst_st {S : Addr → Prop} {H : Hp} {v : V} {M : Addr → Prop} {ds : List PyData} (hM : ∀ a, M a → S a) (x : Da K S H v (.list ds)) : ∃ a xs, v = .ref a ∧ (∀ H', Kept M H H' → SqL K H' a xs) ∧ DaL K S H xs ds := by
  cases x with
  | lst na r t => exact ⟨_, _, rfl, fun H' kk => .inl ((kk.mono hM).rd na r), t⟩
  | lstK r t => exact ⟨_, _, rfl, fun H' _ => r H', t⟩
theorem wi_enumL (hK : K = c.K) (h : Wa c ta ⟨sl, nn⟩ fun ds n => One ds fun d => ∃ xs, d = .py (.list xs) ∧ Θ (enumD xs) n) : Wi c m (iEnum K ta) ⟨sl, nn⟩ Θ := ⟨fun σ A H o R k => by
  subst hK
  refine h.run σ A H o _ fun vs H1 ds n p e1 g1 x => ?_
  obtain ⟨v, d, rfl, x1, xs, rfl, q⟩ := one_of p x
  obtain ⟨a, us, rfl, s1, t1⟩ := Da.lst_st (M := Mm c m σ ⟨sl, nn⟩) (fun a z => Mm.sub o a z) x1
  have lu := t1.len
  refine ⟨a, us, rfl, s1 H1 Kept.refl, k _ H1 _ n q e1 g1 ⟨fun H' i kk hi => ?_, fun H' i kk hi => ?_, fun H' i z H'' kk hi y => ?_⟩⟩
  · rw [enumD_len] at hi
    exact ⟨us, us[i]'(by omega), s1 H' kk, List.getElem?_eq_getElem _⟩
  · rw [enumD_len] at hi
    exact ⟨us, s1 H' kk, by omega⟩
  · rw [enumD_len] at hi
    obtain ⟨T, x', rfl, hT, rfl, z1⟩ := y
    obtain ⟨p1, h1, d1⟩ := t1.got (z1 us (s1 H' kk))
    refine ⟨.py (.tuple [.int (i : Int), p1]), by rw [enumD_get, h1]; rfl, .inr ⟨T, _, hT, rfl⟩, fun B w w2 _ => ?_⟩
    have kT : Kept B H' (upd H' T (.tup [.int (i : Nat), x'])) := fun b u nb q => by rw [upd_ne (ne_of_none q hT)]; exact q
    have e1 : Da c.K B H' x' p1 := Da.to (kk.mono fun a z => Mm.sub o a z) w d1
    exact .tup (fun z => w2 T z hT) (.inl upd_same) (.cons (.int _) (.cons (e1.keep kT) .nil))⟩
theorem enumLK {X : Cx} {e : Expr} {p pos tpos : Pos} {elts : List Expr} {kk : Nat} (hK : X.K = K) (hg : Gl X "enumerate") (hm : X.mg "enumerate" = none) (ha : PA X [e] ta) (hs : starEach [e] X.env = [(false, eval e X.env)] := by rfl) :
    PI X (.Tuple elts kk tpos) (.Call (.Name "enumerate" p) [e] [] pos) (iEnum K ta) := hK ▸ pi_enum hg hm ha hs
end
section
variable {c : Cy} {d : D} {e : En} {Φ : En → Prop} {js : List Nat}
theorem wg_quad {K : PySem.W.Frag} {t1 t2 t3 t4 : TG} (hK : K = c.K) (h : ∃ p q r s, d = .py (.tuple [p, q, r, s]) ∧ Wg c t1 js (.py p) e fun e1 => Wg c t2 js (.py q) e1 fun e2 => Wg c t3 js (.py r) e2 fun e3 => Wg c t4 js (.py s) e3 Φ) : Wg c (gTup K 4 (gCons t1 (gCons t2 (gCons t3 (gCons t4 gNil))))) js d e Φ := ⟨fun σ A H v o x Q k => by
  subst hK
  obtain ⟨p, q, r, s, rfl, h⟩ := h
  obtain ⟨a, xs, rfl, hs, t⟩ := Da.tuple_at x
  cases t with
  | cons y1 t =>
    cases t with
    | cons y2 t =>
      cases t with
      | cons y3 t =>
        cases t with
        | cons y4 t =>
          cases t
          refine ⟨a, _, rfl, hs, rfl, _, _, rfl, h.run σ A H _ o y1 _ fun σ1 e1 h1 o1 w1 u1 => ⟨_, _, rfl, h1.run σ1 A H _ o1 y2 _ fun σ2 e2 h2 o2 w2 u2 => ⟨_, _, rfl, h2.run σ2 A H _ o2 y3 _ fun σ3 e3 h3 o3 w3 u3 => ⟨_, _, rfl, h3.run σ3 A H _ o3 y4 _ fun σ4 e4 h4 o4 w4 u4 => ⟨rfl, k σ4 e4 h4 o4 (((w1.trans w2).trans w3).trans w4) fun b z => u1 b (u2 b (u3 b (u4 b z)))⟩⟩⟩⟩⟩⟩
end
section
variable {c : Cy} {d : D} {e : En} {Φ : En → Prop} {js : List Nat}
theorem wg_trip {K : PySem.W.Frag} {t1 t2 t3 : TG} (hK : K = c.K) (h : ∃ p q r, d = .py (.tuple [p, q, r]) ∧ Wg c t1 js (.py p) e fun e1 => Wg c t2 js (.py q) e1 fun e2 => Wg c t3 js (.py r) e2 Φ) : Wg c (gTup K 3 (gCons t1 (gCons t2 (gCons t3 gNil)))) js d e Φ := ⟨fun σ A H v o x Q k => by
  subst hK
  obtain ⟨p, q, r, rfl, h⟩ := h
  obtain ⟨a, xs, rfl, hs, t⟩ := Da.tuple_at x
  cases t with
  | cons y1 t =>
    cases t with
    | cons y2 t =>
      cases t with
      | cons y3 t =>
        cases t
        refine ⟨a, _, rfl, hs, rfl, _, _, rfl, h.run σ A H _ o y1 _ fun σ1 e1 h1 o1 w1 u1 => ⟨_, _, rfl, h1.run σ1 A H _ o1 y2 _ fun σ2 e2 h2 o2 w2 u2 => ⟨_, _, rfl, h2.run σ2 A H _ o2 y3 _ fun σ3 e3 h3 o3 w3 u3 => ⟨rfl, k σ3 e3 h3 o3 ((w1.trans w2).trans w3) fun b z => u1 b (u2 b (u3 b z))⟩⟩⟩⟩⟩
end
/-- a statement that is not reached; an expression that is not reached -/
def tENever : TE := fun _ _ _ => False
theorem pe_never {X : Cx} {e : Expr} : PE X e tENever := ⟨fun _ _ _ _ _ _ h => h.elim⟩
end Wx

/-! ### part T5 -/
set_option Elab.async false
set_option linter.all false
set_option maxRecDepth 100000
set_option maxHeartbeats 1000000
set_option autoImplicit false
namespace Wx
open PySem L2
def gW (ws : List Wd) : Int := (ws.map fun w => (mW w).2.2).sum
theorem gW_snoc (ws : List Wd) (w : Wd) : gW (ws ++ [w]) = gW ws + (mW w).2.2 := by
  unfold gW
  rw [List.map_append, List.sum_append]
  simp
abbrev frW (ws : List Wd) : PyData := .list [.tuple [.str (Str.ofString "all"), .int (gW ws), .bool (!ws.isEmpty), .int 0]]
theorem wtx_len (ws : List Wd) : (wtx ws).length = ws.length := List.length_map _
theorem wtx_at {ws : List Wd} {i : Nat} {p : PyData} (h : (wtx ws)[i]? = some p) : ∃ w, ws[i]? = some w ∧ w ∈ ws ∧ p = .str w.tx := by
  unfold wtx at h
  rw [List.getElem?_map] at h
  cases q : ws[i]? with
  | none => rw [q] at h; cases h
  | some w => rw [q] at h; cases h; exact ⟨w, rfl, List.mem_of_getElem? q, rfl⟩
theorem wd_ne (w : Wd) {a : Nat} (h : a < 45 ∨ 114 < a) : decide (w.tx = sg [a]) = false := decide_eq_false fun e => by
  have e2 : w.sg = [a] := sg_inj e
  have := wd_sign (w := w) (x := a) (by rw [e2]; exact List.mem_cons_self)
  omega
theorem txt_o : Str.ofString "(" = sg [40] := by decide +kernel
theorem txt_b : Str.ofString "{" = sg [123] := by decide +kernel
theorem txt_i : Str.ofString "|" = sg [124] := by decide +kernel
theorem txt_e : Str.ofString ")" = sg [41] := by decide +kernel
theorem txt_f : Str.ofString "}" = sg [125] := by decide +kernel
theorem wd_cons {w : Wd} (h : okWd w) : ∃ c r, w.sg = c :: r ∧ 45 ≤ c ∧ c ≤ 114 := by
  cases q : w.sg with
  | nil =>
    have := (wd_len h).1
    rw [q] at this
    exact absurd this (by decide)
  | cons c r => exact ⟨c, r, rfl, (wd_sign (w := w) (x := c) (by rw [q]; exact List.mem_cons_self)).1, (wd_sign (w := w) (x := c) (by rw [q]; exact List.mem_cons_self)).2⟩

section
variable {P : Program} {w : World} {K : PySem.W.Frag} {mg : Str → Option Value} {base : Heap} {f C : Addr} {fd : FuncData}
abbrev sp_first_wrong (K : PySem.W.Frag) : Sp := SpX (ι := List Wd) K (fun ws => [.py (.list (wtx ws)), .dct []]) (fun ws _ => ws.length ≤ 1000 ∧ ∀ w ∈ ws, okWd w) fun ws n d m => d = .py .none ∧ m = n
theorem ln_first_wrong (ws : List Wd) : [D.py (.list (wtx ws)), .dct []].length = 2 := rfl
theorem nm_first_wrong (ws : List Wd) : [D.py (.list (wtx ws)), .dct []].all D.nm = true := rfl
theorem sc_first_wrong : FnScope ["words", "growths", "frames", "index", "word", "kind", "growth", "filled", "before", "more"] ["words", "growths"] (defScope (top 26)) := ⟨rfl, rfl, rfl, by decide +kernel, rfl, by decide +kernel, by decide +kernel⟩
theorem ok_first_wrong (F : FnP K "first_wrong" "first_wrong" (top 26) f fd) (g_enumerate : mg "enumerate" = none) (i_MOST_WORDS : GInt mg "MOST_WORDS" 1000) (g_len : mg "len" = none) (S_is_instruction : Std P w K mg base 3 "is_instruction" ["word"] (sp_is_instruction K)) (S_measure_of : Std P w K mg base 1 "measure_of" ["word"] (sp_measure_of K)) : FnOk P w K mg base CX0 4 f fd ["words", "growths"] (sp_first_wrong K) := by
  refine F.ok sc_first_wrong (sx_len ln_first_wrong) (fun cdv A outer s H vs Q E hr h => ?_)
  have nd := sc_first_wrong.nd
  refine ⟨_, PSs.nox (pss_cons (ps_set (i := 2) nd rfl (Or.inl rfl) (pe_lst (pa_cons (pe_tup (pa_cons (pe_str) (pa_cons (pe_int) (pa_cons (pe_bl) (pa_cons (pe_int) (pa_nil)))))) (pa_nil))))
 (pss_cons (ps_for PassesOwn.never rfl (enumLK (K := K) rfl rfl g_enumerate (pa_cons (pv 0) (pa_nil))) (gtupK (K := K) (n := 2) rfl rfl (pgs_cons (pg_name (i := 3) nd rfl (Or.inl rfl)) (pgs_cons (pg_name (i := 4) nd rfl (Or.inl rfl)) (pgs_nil)))) (pss_cons (ps_asg (pe_ix (ixK (K := K) rfl) (pv 2) (pe_un un_neg (pe_int)) (fun _ _ => rfl)) (gtupK (K := K) (n := 4) rfl rfl (pgs_cons (pg_name (i := 5) nd rfl (Or.inl rfl)) (pgs_cons (pg_name (i := 6) nd rfl (Or.inl rfl)) (pgs_cons (pg_name (i := 7) nd rfl (Or.inl rfl)) (pgs_cons (pg_name (i := 8) nd rfl (Or.inl rfl)) (pgs_nil)))))))
 (pss_cons (ps_if (pt_cmpR op_ge (pv 3) (pe_gint i_MOST_WORDS rfl) (nomark _)) (pss_one (ps_ret (pv 3))) (pss_nil))
 (pss_one (ps_if (pt_cmpR (inK (K := K) rfl (room65 hr)) (pv 4) (pe_tup (pa_cons (pe_str) (pa_cons (pe_str) (pa_nil)))) (by rfl)) (pss_cons (ps_never)
 (pss_one (ps_never))) (pss_one (ps_if (pt_cmpR (eqK (K := K) rfl (room64 hr)) (pv 4) (pe_str) (nomark _)) (pss_cons (ps_never)
 (pss_one (ps_never))) (pss_cons (ps_set (i := 9) nd rfl (Or.inl rfl) (pe_int))
 (pss_cons (ps_if (pt_cmpR (eqK (K := K) rfl (room64 hr)) (pe_slice (slK (K := K) rfl) (pv 4) po_none (po_some (pe_int))) (pe_str) (nomark _)) (pss_cons (ps_never)
 (pss_cons (ps_never)
 (pss_one (ps_never)))) (pss_one (ps_if (pt_cmpR (eqK (K := K) rfl (room64 hr)) (pv 4) (pe_str) (nomark _)) (pss_cons (ps_never)
 (pss_cons (ps_never)
 (pss_one (ps_never)))) (pss_one (ps_if (truK (K := K) rfl (pe_std S_is_instruction hr rfl (pa_cons (pv 4) (pa_nil))) (by intro _; rfl)) (pss_one (ps_set (i := 9) nd rfl (Or.inl rfl) (pe_ix (ixK (K := K) rfl) (pe_std S_measure_of (hr.mono (by decide)) rfl (pa_cons (pv 4) (pa_nil))) (pe_int) (fun _ _ => rfl)))) (pss_one (ps_if (pt_cmp (pc_din (hu_of hr) (pv 4) (pv 1)) (by rfl)) (pss_one (ps_never)) (pss_one (ps_ret (pv 3))))))))))
 (pss_cons (ps_asg (pe_ix (ixK (K := K) rfl) (pv 2) (pe_un un_neg (pe_int)) (fun _ _ => rfl)) (gtupK (K := K) (n := 4) rfl rfl (pgs_cons (pg_name (i := 5) nd rfl (Or.inl rfl)) (pgs_cons (pg_name (i := 6) nd rfl (Or.inl rfl)) (pgs_cons (pg_name (i := 7) nd rfl (Or.inl rfl)) (pgs_cons (pg_name (i := 8) nd rfl (Or.inl rfl)) (pgs_nil)))))))
 (pss_one (ps_set (i := 2) nd rfl (Or.inl rfl) (pe_op (addK (K := K) rfl) (pe_slice (slK (K := K) rfl) (pv 2) po_none (po_some (pe_un un_neg (pe_int)))) (pe_lst (pa_cons (pe_tup (pa_cons (pv 5) (pa_cons (pe_op (addK (K := K) rfl) (pv 6) (pv 9)) (pa_cons (pe_bl) (pa_cons (pv 8) (pa_nil)))))) (pa_nil))))))))))))))))
 (pss_one (ps_ret (pe_ifExp (pt_cmpR (eqK (K := K) rfl (room64 hr)) (pe_callB (lenK (K := K) rfl) rfl g_len PySem.boot_len (pa_cons (pv 2) (pa_nil))) (pe_int) (nomark _)) (pe_non) (pe_callB (lenK (K := K) rfl) rfl g_len PySem.boot_len (pa_cons (pv 0) (pa_nil)))))))), ?_⟩
  refine body_x nm_first_wrong ?_ vs H Q E h
  clear h hr
  intro c n x hK hp
  (subst hK)
  try clear g_enumerate i_MOST_WORDS g_len S_is_instruction S_measure_of F
  obtain ⟨h1, h2⟩ : x.length ≤ 1000 ∧ ∀ w ∈ x, okWd w := hp
  walk_at "WK"
  refine ws_for [3, 4] (wi_enumL rfl ?_)
  walk_at "WK"
  refine ⟨_, rfl, ?_⟩
  refine ⟨fun i e1 => ∃ s3 s4 s5 s6 s7 s8 s9, e1 = ⟨[.val (.py (.list (wtx x))), .val (.dct []), .val (.py (frW (x.take i))), s3, s4, s5, s6, s7, s8, s9], n⟩, ⟨.emp, .emp, .emp, .emp, .emp, .emp, .emp, rfl⟩, ?_, ?_⟩
  · rintro i d e1 hd ⟨s3, s4, s5, s6, s7, s8, s9, rfl⟩
    rw [enumD_get] at hd
    obtain ⟨w, hw, hwm, rfl⟩ : ∃ w, x[i]? = some w ∧ w ∈ x ∧ d = .py (.tuple [.int (i : Int), .str w.tx]) := by
      cases q : (wtx x)[i]? with
      | none => rw [q] at hd; cases hd
      | some p =>
        obtain ⟨w, a, b, rfl⟩ := wtx_at q
        rw [q] at hd
        cases hd
        exact ⟨w, a, b, rfl⟩
    have hi : i < x.length := (List.getElem?_eq_some_iff.mp hw).1
    have ts : x.take (i + 1) = x.take i ++ [w] := by rw [List.take_add_one, hw]; rfl
    have okw := h2 w hwm
    refine wg_pair rfl ⟨_, _, rfl, wg_name ⟨rfl, wg_name ⟨rfl, ?_⟩ (Nat.le_of_ble_eq_true rfl) (by decide)⟩ (Nat.le_of_ble_eq_true rfl) (by decide)⟩
    refine ws_seq ?_
    refine ws_asg [5, 6, 7, 8] ?_
    walk_at "WK"
    refine ⟨_, rfl, ?_⟩
    refine wg_quad rfl ⟨_, _, _, _, rfl, wg_name ⟨rfl, wg_name ⟨rfl, wg_name ⟨rfl, wg_name ⟨rfl, ?_⟩ (Nat.le_of_ble_eq_true rfl) (by decide)⟩ (Nat.le_of_ble_eq_true rfl) (by decide)⟩ (Nat.le_of_ble_eq_true rfl) (by decide)⟩ (Nat.le_of_ble_eq_true rfl) (by decide)⟩
    show Ws c _ ⟨[.val (.py (.list (wtx x))), .val (.dct []), .val (.py (frW (x.take i))), .val (.py (.int (i : Int))), .val (.py (.str w.tx)), .val (.py (.str (Str.ofString "all"))), .val (.py (.int (gW (x.take i)))), .val (.py (.bool (!(x.take i).isEmpty))), .val (.py (.int 0)), s9], n⟩ _
    refine ws_seq ?_
    walk_at "WK"
    refine ⟨fun z => absurd (of_decide_eq_true z) (by omega), fun _ => ?_⟩
    walk_at "WK"
    have em : Mem (.str w.tx) [.str (Str.ofString "("), .str (Str.ofString "{")] = false := by
      have e1 : ¬ Str.ofString "(" = w.tx := fun z => of_decide_eq_false (wd_ne w (a := 40) (by decide)) (by rw [← z, txt_o])
      have e2 : ¬ Str.ofString "{" = w.tx := fun z => of_decide_eq_false (wd_ne w (a := 123) (by decide)) (by rw [← z, txt_b])
      simp [Mem, eqv_strD, e1, e2]
    refine ⟨shp_wd w, by decide +kernel, ?_⟩
    rw [em]
    walk_at "WK"
    refine ⟨fun z => (nomatch z), fun _ => ?_⟩
    walk_at "WK"
    rw [txt_i]
    refine ⟨shp_wd w, shp_sg (by simp), ?_⟩
    rw [eqv_strD, wd_ne w (a := 124) (by decide)]
    walk_at "WK"
    refine ⟨fun z => (nomatch z), fun _ => ?_⟩
    obtain ⟨ch, r, ew, c1, c2⟩ := wd_cons okw
    have hw33 := wd_len okw
    have l3 : w.tx.length ≤ sizeLine := by unfold Wd.tx; rw [sg_len]; exact Nat.le_trans hw33.2 (by rw [sizeLine_eq]; decide)
    have e' : w.tx.cps.toList = ch :: r := ew
    walk_at "WK"
    refine ⟨l3, ?_⟩
    rw [cut_head _ e']
    walk_at "WK"
    rw [txt_e]
    refine ⟨shp_sg (l := [ch]) (by simp; omega), shp_sg (by simp), ?_⟩
    rw [eqv_sg, decide_eq_false (fun z => by have := (List.cons.inj z).1; omega)]
    walk_at "WK"
    refine ⟨fun z => (nomatch z), fun _ => ?_⟩
    walk_at "WK"
    rw [txt_f]
    refine ⟨shp_wd w, shp_sg (by simp), ?_⟩
    rw [eqv_strD, wd_ne w (a := 125) (by decide)]
    walk_at "WK"
    refine ⟨fun z => (nomatch z), fun _ => ?_⟩
    walk_at "WK"
    refine ⟨w, rfl, okw, ?_⟩
    rintro d m ⟨rfl, rfl⟩
    refine ⟨rfl, ?_⟩
    walk_at "WK"
    refine ⟨fun _ => ?_, fun z => (nomatch z)⟩
    walk_at "WK"
    refine ⟨w, rfl, okw, ?_⟩
    rintro d m ⟨rfl, rfl⟩
    refine ⟨rfl, ?_⟩
    walk_at "WK"
    refine ⟨_, rfl, ?_⟩
    walk_at "WK"
    show Ws c _ _ _
    refine ws_asg [5, 6, 7, 8] ?_
    walk_at "WK"
    refine ⟨_, rfl, ?_⟩
    refine wg_quad rfl ⟨_, _, _, _, rfl, wg_name ⟨rfl, wg_name ⟨rfl, wg_name ⟨rfl, wg_name ⟨rfl, ?_⟩ (Nat.le_of_ble_eq_true rfl) (by decide)⟩ (Nat.le_of_ble_eq_true rfl) (by decide)⟩ (Nat.le_of_ble_eq_true rfl) (by decide)⟩ (Nat.le_of_ble_eq_true rfl) (by decide)⟩
    have g1 : gW (x.take (i + 1)) = gW (x.take i) + (mW w).2.2 := by rw [ts, gW_snoc]
    have g2 : (!(x.take (i + 1)).isEmpty) = true := by rw [ts]; simp
    refine ws_set (i := 2) (wp_new (wn_cat (wn_sl rfl ?_))) (Nat.le_of_ble_eq_true rfl)
    walk_at "WK"
    refine ⟨_, rfl, [], by unfold cutD; rfl, ?_⟩
    walk_at "WK"
    refine ⟨_, rfl, by show 0 + 1 ≤ sizeLine; decide, ?_⟩
    refine ⟨rfl, .val (.py (.int (i : Int))), .val (.py (.str w.tx)), .val (.py (.str (Str.ofString "all"))), .val (.py (.int (gW (x.take i)))), .val (.py (.bool (!(x.take i).isEmpty))), .val (.py (.int 0)), .val (.py (.int (mW w).2.2)), ?_⟩
    have gf : frW (x.take (i + 1)) = .list [.tuple [.str (Str.ofString "all"), .int (gW (x.take i) + (mW w).2.2), .bool true, .int 0]] := by unfold frW; rw [g1, g2]
    rw [gf]
    rfl
  · rintro e1 ⟨s3, s4, s5, s6, s7, s8, s9, rfl⟩
    walk_at "WK"
    refine ⟨fun _ => ?_, fun z => absurd (of_decide_eq_false z) (fun q => q rfl)⟩
    walk_at "WK"
    first | exact ⟨rfl, rfl⟩ | exact rfl
end
end Wx

/-! ### part X2 -/
set_option Elab.async false
set_option linter.all false
set_option maxRecDepth 100000
set_option maxHeartbeats 1000000
set_option autoImplicit false
namespace Wx
open PySem L2

theorem sum_le {B : Int} : ∀ {xs : List Int}, (∀ x ∈ xs, x ≤ B) → xs.sum ≤ xs.length * B
  | [], _ => by simp
  | y :: ys, h => by
    have ih := sum_le (xs := ys) fun x hx => h x (List.mem_cons_of_mem _ hx)
    have hy := h y List.mem_cons_self
    rw [List.sum_cons, List.length_cons, Int.natCast_add, Int.add_mul]
    omega
theorem spare_le {left goal : List Key} (h : left.length ≤ 60) : spareF left goal ≤ 3600 := by
  have h1 : spareF left goal ≤ ((tal left).map fun p => mx0 (p.2 - cnt (tal goal) p.1)).length * 60 := sum_le fun x hx => by
    obtain ⟨p, hp, rfl⟩ := List.mem_map.mp hx
    have e1 := cnt_tal p.1 left
    have e2 := cnt_tal p.1 goal
    unfold cnt at e1
    rw [mem_getI (tal_keys left) hp] at e1
    have e3 : p.2 = cntL left p.1 := e1
    have e4 : cntL left p.1 ≤ left.length := List.length_filter_le _ _
    unfold mx0
    split <;> omega
  rw [List.length_map] at h1
  have h2 := tal_len left
  omega
theorem wide2 {x : Int} (h0 : 0 ≤ x) (h : x ≤ 3600) : CMulW 2 x := wide_mul (a := 10) (b := 20) (by decide +kernel) (by omega) (by decide) (by decide) (by decide)
theorem cut_toK {α : Type} (xs : List α) (i : Nat) (h : i ≤ xs.length) : cutD xs none (some (i : Int)) = xs.take i := by
  unfold cutD
  rw [HT.sIx_nat, HT.sIx_none, Nat.min_eq_left h]
  simp
theorem log2_lt {v : Int} (h : v.natAbs ≤ 10 ^ 30) : v.natAbs.log2 < 1920 := by
  by_cases z : v.natAbs = 0
  · rw [z]; decide
  · exact (Nat.log2_lt z).mpr (Nat.lt_of_le_of_lt h (by decide +kernel))
section
variable {P : Program} {w : World} {K : PySem.W.Frag} {mg : Str → Option Value} {base : Heap} {f : Addr} {fd : FuncData}
abbrev sp_fewest_behind (K : PySem.W.Frag) : Sp := SpX (ι := List Key × List Key) K (fun x => [.py (pile x.1), .py (pile x.2)]) (fun x _ => okPl x.1 ∧ okPl x.2) fun x n d m => d = .py (.int (2 * spareF x.1 x.2 + x.2.length - standF x.2 x.1)) ∧ m = n
theorem ln_fewest_behind (x : List Key × List Key) : [D.py (pile x.1), .py (pile x.2)].length = 2 := rfl
theorem nm_fewest_behind (x : List Key × List Key) : [D.py (pile x.1), .py (pile x.2)].all D.nm = true := rfl
theorem sc_fewest_behind : FnScope ["pile", "goal", "wanted", "spare", "label", "many"] ["pile", "goal"] (defScope (top 46)) := ⟨rfl, rfl, rfl, by decide +kernel, rfl, by decide +kernel, by decide +kernel⟩
theorem ok_fewest_behind (F : FnP K "fewest_behind" "fewest_behind" (top 46) f fd) (S_counts_of : Std P w K mg base 1 "counts_of" ["labels"] (sp_counts_of K)) (g_sum : mg "sum" = none) (g_max : mg "max" = none) (g_len : mg "len" = none) (S_standing_in : Std P w K mg base 1 "standing_in" ["pile", "goal"] (sp_standing_in K)) : FnOk P w K mg base CX0 2 f fd ["pile", "goal"] (sp_fewest_behind K) := by
  refine F.ok sc_fewest_behind (sx_len ln_fewest_behind) (fun cdv A outer s H vs Q E hr h => ?_)
  have nd := sc_fewest_behind.nd
  refine ⟨_, PSs.nox (pss_cons (ps_set (i := 2) nd rfl (Or.inr rfl) (pe_std S_counts_of hr rfl (pa_cons (pv 1) (pa_nil))))
 (pss_cons (ps_set (i := 3) nd rfl (Or.inl rfl) (pe_callB (sumK (K := K) rfl rfl) rfl g_sum bt_sum (pa_cons (pe_lc (own := [("label", 4), ("many", 5)]) rfl nd (pi_items (pe_std S_counts_of hr rfl (pa_cons (pv 0) (pa_nil)))) (blkOk_by (N := ["pile", "goal", "wanted", "spare", "label", "many"]) (sc := (defScope (top 46))) (by decide +kernel)) (fun _ _ _ _ _ => gtupK (K := K) (n := 2) rfl rfl (pgs_cons (pg_name (i := 4) nd rfl (Or.inl rfl) (.inr rfl)) (pgs_cons (pg_name (i := 5) nd rfl (Or.inl rfl) (.inr rfl)) (pgs_nil)))) (fun _ _ _ _ _ => pts_nil) (fun _ _ _ _ _ => pe_callB (callMAX2 rfl) rfl g_max bt_max (pa_cons (pe_int) (pa_cons (pe_op op_sub (pv 5) (pe_dget2 (hu_of hr) (pv 2) (pv 4) (pe_int) ⟨rfl, rfl, rfl, rfl⟩)) (pa_nil))))) (pa_nil))))
 (pss_one (ps_ret (pe_op op_sub (pe_op (addK (K := K) rfl) (pe_op opMUL (pe_int) (pv 3)) (pe_callB (lenK (K := K) rfl) rfl g_len PySem.boot_len (pa_cons (pv 1) (pa_nil)))) (pe_callB (lenK (K := K) rfl) rfl g_len PySem.boot_len (pa_cons (pe_std S_standing_in hr rfl (pa_cons (pv 0) (pa_cons (pv 1) (pa_nil)))) (pa_nil)))))))), ?_⟩
  refine body_x nm_fewest_behind ?_ vs H Q E h
  clear h hr
  intro c n x hK hp
  (subst hK)
  try clear S_counts_of g_sum g_max g_len S_standing_in F
  obtain ⟨hp1, hp2⟩ : okPl x.1 ∧ okPl x.2 := hp
  walk_at "WK"
  refine ⟨x.2, rfl, hp2.1, ?_⟩
  rintro d m ⟨rfl, rfl⟩
  refine ⟨rfl, ?_⟩
  walk_at "WK"
  refine wp_new (wn_lc (fun v hv => ?_) (wi_items ?_))
  · have : v = 4 ∨ v = 5 := by simpa using hv
    rcases this with rfl | rfl <;> exact Nat.le_of_ble_eq_true rfl
  walk_at "WK"
  refine ⟨x.1, rfl, hp1.1, ?_⟩
  rintro d m2 ⟨rfl, rfl⟩
  refine ⟨rfl, _, rfl, ?_⟩
  refine ⟨fun i acc m' => m' = m2 ∧ acc = nums (((tal x.1).take i).map fun p => mx0 (p.2 - cnt (tal x.2) p.1)), ⟨rfl, rfl⟩, ?_, ?_, ?_⟩
  · unfold itemsD
    rw [List.length_map, dI_len]
    exact Nat.lt_of_le_of_lt (Nat.le_trans (tal_len x.1) hp1.1) (by decide)
  · rintro i acc m' d hd ⟨rfl, rfl⟩
    obtain ⟨p, hq, rfl⟩ : ∃ p, (tal x.1)[i]? = some p ∧ d = .py (.tuple [lab p.1, .int p.2]) := by
      unfold itemsD dI at hd
      rw [List.getElem?_map, List.getElem?_map] at hd
      cases q : (tal x.1)[i]? with
      | none => rw [q] at hd; cases hd
      | some p => rw [q] at hd; cases hd; exact ⟨p, rfl, rfl⟩
    refine wg_pair rfl ⟨_, _, rfl, wg_name ⟨rfl, wg_name ⟨rfl, ?_⟩ (Nat.le_of_ble_eq_true rfl) (by decide)⟩ (Nat.le_of_ble_eq_true rfl) (by decide)⟩
    refine wt_yes ⟨fun _ => ?_, fun z => nomatch z⟩
    walk_at "WK"
    refine ⟨_, rfl, ?_⟩
    rw [getD_dI]
    walk_at "WK"
    rw [List.take_add_one, hq, List.map_append, ← nums_app]
    rfl
  · rintro acc m' ⟨rfl, rfl⟩
    rw [show (itemsD (dI (tal x.1))).length = (tal x.1).length from by unfold itemsD; rw [List.length_map, dI_len], List.take_length]
    walk_at "WK"
    refine cw_sum rfl (one_mk ⟨_, rfl, ?_⟩)
    walk_at "WK"
    refine rw_mI (wide2 (spare_nn x.1 x.2) (spare_le hp1.1)) ?_
    walk_at "WK"
    refine ⟨(x.1, x.2), rfl, ⟨hp1, hp2⟩, ?_⟩
    rintro d m ⟨⟨xs, rfl, hx, _⟩, rfl⟩
    refine ⟨rfl, ?_⟩
    walk_at "WK"
    rw [labs_len, nums_len, hx]
    exact ⟨rfl, rfl⟩
def knownTx (goal : List Key) (ds : List (Key × PyData)) : Prop := ∀ v, Sum.inl v ∈ goal → valP ds (.inl v) = some (.str (toString v))
def knownOk (goal : List Key) (ds : List (Key × PyData)) : Prop := ∀ k ∈ goal, (valP ds k).isSome = !isStr k
abbrev sp_words_known (K : PySem.W.Frag) : Sp := SpX (ι := List Key) K (fun l => [.py (pile l)]) (fun l _ => okPl l) fun l n d m => (∃ ds, d = .dcl ds ∧ knownOk l ds ∧ knownTx l ds) ∧ m = n
theorem ln_words_known (l : List Key) : [D.py (pile l)].length = 1 := rfl
theorem nm_words_known (l : List Key) : [D.py (pile l)].all D.nm = true := rfl
theorem sc_words_known : FnScope ["goal", "label"] ["goal"] (defScope (top 53)) := ⟨rfl, rfl, rfl, by decide +kernel, rfl, by decide +kernel, by decide +kernel⟩
theorem ok_words_known (F : FnP K "words_known" "words_known" (top 53) f fd) (g_str : mg "str" = none) (S_is_constant : Std P w K mg base 3 "is_constant" ["value"] (sp_is_constant K)) : FnOk P w K mg base CX0 4 f fd ["goal"] (sp_words_known K) := by
  refine F.ok sc_words_known (sx_len ln_words_known) (fun cdv A outer s H vs Q E hr h => ?_)
  have nd := sc_words_known.nd
  refine ⟨_, PSs.nox (pss_one (ps_retL (pe_dc (own := [("label", 1)]) rfl nd (itupK (K := K) rfl (pv 0)) (blkOk_by (N := ["goal", "label"]) (sc := (defScope (top 53))) (by decide +kernel)) (fun _ _ _ _ _ => pg_name (i := 1) nd rfl (Or.inl rfl) (.inr rfl)) (fun _ _ _ _ _ => pts_one (truK (K := K) rfl (pe_std S_is_constant hr rfl (pa_cons (pv 1) (pa_nil))) (by intro _; rfl))) (fun _ _ _ _ _ => pv 1) (fun _ _ _ _ _ => pe_callTy callSTR rfl g_str bt_str (pa_cons (pv 1) (pa_nil)))))), ?_⟩
  refine body_x nm_words_known ?_ vs H Q E h
  clear h hr
  intro c n x hK hp
  (subst hK)
  try clear g_str S_is_constant F
  have hp' : okPl x := hp
  walk_at "WK"
  refine wn_dc (fun v hv => ?_) (wi_tup rfl ?_)
  · have : v = 1 := by simpa using hv
    subst this
    exact Nat.le_of_ble_eq_true rfl
  walk_at "WK"
  refine ⟨fun i acc m' => m' = n ∧ (∀ k, (valP acc k).isSome = decide (k ∈ x.take i ∧ isStr k = false)) ∧ ∀ v p, valP acc (.inl v) = some p → p = .str (toString v), ⟨rfl, fun k => rfl, fun v p h => (nomatch h)⟩, by rw [List.length_map, labs_len]; have := hp'.1; omega, ?_, ?_⟩
  · rintro i acc m' d hd ⟨rfl, ha, hz⟩
    obtain ⟨s, hs, hm, rfl⟩ := labs_item hd
    have hs' := hp'.2 s hm
    refine wg_name ⟨rfl, ?_⟩ (Nat.le_of_ble_eq_true rfl) (by decide)
    walk_at "WK"
    refine ⟨s, rfl, trivial, ?_⟩
    rintro d m ⟨rfl, rfl⟩
    cases s with
    | inl v =>
      have hv : -(10 ^ 30) ≤ v ∧ v ≤ 10 ^ 30 := hs'
      refine ⟨rfl, fun _ => ?_, fun z => absurd (of_decide_eq_false z) (fun q => q hv)⟩
      walk_at "WK"
      refine cw_str (one_mk ⟨_, rfl, log2_lt (by omega), ?_⟩)
      refine ⟨_, rfl, rfl, fun k => ?_, fun u p hu => ?_⟩
      · rw [valP_put, List.take_add_one, hs]
        by_cases e : k = Sum.inl v
        · subst e
          rw [if_pos rfl]
          exact (decide_eq_true ⟨List.mem_append_right _ List.mem_cons_self, rfl⟩).symm
        · rw [if_neg e, ha]
          simp [e]
      · rw [valP_put] at hu
        by_cases e : (Sum.inl u : Key) = Sum.inl v
        · rw [if_pos e] at hu
          cases Sum.inl.inj e
          exact (Option.some.inj hu).symm
        · rw [if_neg e] at hu
          exact hz u p hu
    | inr v =>
      refine ⟨rfl, fun z => (nomatch z), fun _ => ?_⟩
      refine ⟨rfl, fun k => ?_, hz⟩
      rw [ha, List.take_add_one, hs]
      cases k with
      | inl u => simp
      | inr u => simp [isStr]
  · rintro acc m' ⟨rfl, ha, hz⟩
    rw [List.length_map, labs_len, List.take_length] at ha
    refine ⟨_, rfl, ⟨_, rfl, fun k hk => ?_, fun v hv => ?_⟩, rfl⟩
    · rw [ha]
      cases isStr k <;> simp [hk]
    · have h := ha (.inl v)
      rw [decide_eq_true ⟨hv, rfl⟩] at h
      obtain ⟨p, hp⟩ := Option.isSome_iff_exists.mp h
      rw [hp, hz v p hp]
def bestI (pl goal : List Key) (i : Nat) (d : PyData) : Prop := match bestK pl goal i with
  | none => d = .none
  | some b => d = .tuple [.int b.1, .int (b.2 : Int)]
def bestP (pl goal : List Key) (d : D) : Prop := ∃ p, d = .py p ∧ bestI pl goal (pl.length + 1) p
abbrev sp_best_between (K : PySem.W.Frag) : Sp := SpX (ι := List Key × List Key × List (Key × PyData)) K (fun x => [.py (pile x.1), .py (pile x.2.1), .dcl x.2.2]) (fun x _ => okPl x.1 ∧ okPl x.2.1 ∧ knownOk x.2.1 x.2.2) fun x n d m => bestP x.1 x.2.1 d ∧ m = n
theorem ln_best_between (x : List Key × List Key × List (Key × PyData)) : [D.py (pile x.1), .py (pile x.2.1), .dcl x.2.2].length = 3 := rfl
theorem nm_best_between (x : List Key × List Key × List (Key × PyData)) : [D.py (pile x.1), .py (pile x.2.1), .dcl x.2.2].all D.nm = true := rfl
theorem sc_best_between : FnScope ["pile", "goal", "known", "needed", "found", "dropped", "left", "label", "number"] ["pile", "goal", "known"] (defScope (top 47)) := ⟨rfl, rfl, rfl, by decide +kernel, rfl, by decide +kernel, by decide +kernel⟩
theorem ok_best_between (F : FnP K "best_between" "best_between" (top 47) f fd) (g_range : mg "range" = none) (g_all : mg "all" = none) (g_len : mg "len" = none) (S_fewest_behind : Std P w K mg base 2 "fewest_behind" ["pile", "goal"] (sp_fewest_behind K)) : FnOk P w K mg base CX0 3 f fd ["pile", "goal", "known"] (sp_best_between K) := by
  refine F.ok sc_best_between (sx_len ln_best_between) (fun cdv A outer s H vs Q E hr h => ?_)
  have nd := sc_best_between.nd
  refine ⟨_, PSs.nox (pss_cons (ps_setLc (i := 3) (own := [("label", 7)]) rfl nd rfl rfl (sw_true rfl rfl rfl (by decide +kernel)) (itupK (K := K) rfl (pv 1)) (blkOk_by (N := ["pile", "goal", "known", "needed", "found", "dropped", "left", "label", "number"]) (sc := (defScope (top 47))) (by decide +kernel)) (fun _ _ _ _ _ => pg_name (i := 7) nd rfl (Or.inl rfl) (.inr rfl)) (fun _ _ _ _ _ => pts_one (pt_cmp (pc_dnotin (hu_of hr) (pv 7) (pv 2)) (by rfl))) (fun _ _ _ _ _ => pv 7))
 (pss_cons (ps_set (i := 4) nd rfl (Or.inl rfl) (pe_non))
 (pss_cons (ps_for PassesOwn.never rfl (pi_range1 rfl g_range (pa_cons (pe_op (addK (K := K) rfl) (pe_callB (lenK (K := K) rfl) rfl g_len PySem.boot_len (pa_cons (pv 0) (pa_nil))) (pe_int)) (pa_nil))) (pg_name (i := 5) nd rfl (Or.inl rfl)) (pss_cons (ps_set (i := 6) nd rfl (Or.inr rfl) (pe_slice (slK (K := K) rfl) (pv 0) po_none (po_some (pe_op op_sub (pe_callB (lenK (K := K) rfl) rfl g_len PySem.boot_len (pa_cons (pv 0) (pa_nil))) (pv 5)))))
 (pss_one (ps_if (truK (K := K) rfl (pe_callB (allK (K := K) rfl rfl) rfl g_all bt_all (pa_cons (pe_lc (own := [("label", 7)]) rfl nd (ilistK (K := K) rfl (pv 3)) (blkOk_by (N := ["pile", "goal", "known", "needed", "found", "dropped", "left", "label", "number"]) (sc := (defScope (top 47))) (by decide +kernel)) (fun _ _ _ _ _ => pg_name (i := 7) nd rfl (Or.inl rfl) (.inr rfl)) (fun _ _ _ _ _ => pts_nil) (fun _ _ _ _ _ => pe_cmpR (inK (K := K) rfl (room65 hr)) (pv 7) (pv 6) (by rfl))) (pa_nil))) (by intro _; rfl)) (pss_cons (ps_set (i := 8) nd rfl (Or.inl rfl) (pe_op (addK (K := K) rfl) (pv 5) (pe_std S_fewest_behind hr rfl (pa_cons (pv 6) (pa_cons (pv 1) (pa_nil))))))
 (pss_one (ps_if (PW.pt (pw_or (pt_cmpR opISN (pv 4) (pe_non) (nomark _)) (pw_or1 (pt_cmpR op_lt (pv 8) (pe_ix (ixK (K := K) rfl) (pv 4) (pe_int) (fun _ _ => rfl)) (nomark _))))) (pss_one (ps_set (i := 4) nd rfl (Or.inl rfl) (pe_tup (pa_cons (pv 8) (pa_cons (pv 5) (pa_nil)))))) (pss_nil)))) (pss_nil)))))
 (pss_one (ps_ret (pv 4)))))), ?_⟩
  refine body_x nm_best_between ?_ vs H Q E h
  clear h hr
  intro c n x hK hp
  (subst hK)
  try clear g_range g_all g_len S_fewest_behind F
  obtain ⟨pl, goal, ds⟩ := x
  obtain ⟨hp1, hp2, hk⟩ : okPl pl ∧ okPl goal ∧ knownOk goal ds := hp
  dsimp only
  walk_at "WK"
  refine wp_new (wn_lc (fun v hv => ?_) (wi_tup rfl ?_))
  · have : v = 7 := by simpa using hv
    subst this
    exact Nat.le_of_ble_eq_true rfl
  walk_at "WK"
  refine ⟨fun i acc m' => m' = n ∧ acc = labs ((goal.take i).filter isStr), ⟨rfl, rfl⟩, by rw [List.length_map, labs_len]; have := hp2.1; omega, ?_, ?_⟩
  · rintro i acc m' d hd ⟨rfl, rfl⟩
    obtain ⟨s, hs, hm, rfl⟩ := labs_item hd
    refine wg_name ⟨rfl, ?_⟩ (Nat.le_of_ble_eq_true rfl) (by decide)
    walk_at "WK"
    rw [hk s hm]
    have ts : goal.take (i + 1) = goal.take i ++ [s] := by rw [List.take_add_one, hs]; rfl
    refine ⟨fun z => ?_, fun z => ?_⟩
    · have z' : isStr s = true := by simpa using z
      walk_at "WK"
      rw [ts, List.filter_append, List.filter_cons_of_pos z']
      exact labs_app _ [s]
    · have z' : ¬ isStr s = true := by simpa using z
      refine ⟨rfl, ?_⟩
      rw [ts, List.filter_append, List.filter_cons_of_neg z']
      simp
  · rintro acc m' ⟨rfl, rfl⟩
    walk_at "WK"
    rw [List.length_map, labs_len, List.take_length]
    refine ws_for [5] (wi_rng1 ?_)
    walk_at "WK"
    rw [labs_len]
    refine ⟨by have := hp1.1; omega, by have := hp1.1; omega, fun i e1 => ∃ (d4 : PyData) (s5 s6 s7 s8 : Slo), bestI pl goal i d4 ∧ e1 = ⟨[.val (.py (pile pl)), .val (.py (pile goal)), .val (.dcl ds), .val (.py (.list (labs (goal.filter isStr)))), .val (.py d4), s5, s6, s7, s8], m'⟩, ⟨.none, .emp, .emp, .emp, .emp, rfl, rfl⟩, ?_, ?_⟩
    · rintro i d e1 hd ⟨d4, s5, s6, s7, s8, h4, rfl⟩
      obtain ⟨hi, rfl⟩ := seqI_of hd
      refine wg_name ⟨rfl, ?_⟩ (Nat.le_of_ble_eq_true rfl) (by decide)
      walk_at "WK"
      rw [labs_len, show (0 + (i : Int) * 1) = (i : Int) by omega, ← Int.ofNat_sub (by omega : i ≤ pl.length), cut_toK (labs pl) (pl.length - i) (by rw [labs_len]; omega), labs_take]
      have hpL := hp1.take (pl.length - i)
      have hon : okF pl goal i = (goal.filter isStr).all fun k => decide (k ∈ pl.take (pl.length - i)) := rfl
      have hnum : numF pl goal i = (i : Int) + (2 * spareF (pl.take (pl.length - i)) goal + goal.length - standF goal (pl.take (pl.length - i))) := rfl
      have hb1 : bestK pl goal (i + 1) = if okF pl goal i = true then some (match bestK pl goal i with | none => (numF pl goal i, i) | some b => if numF pl goal i < b.1 then (numF pl goal i, i) else b) else bestK pl goal i := rfl
      generalize pl.take (pl.length - i) = L at *
      refine wp_new (wn_lc (fun v hv => ?_) (wi_list rfl ?_))
      · have : v = 7 := by simpa using hv
        subst this
        exact Nat.le_of_ble_eq_true rfl
      walk_at "WK"
      refine ⟨fun j acc m2 => m2 = m' ∧ acc = (((goal.filter isStr).take j).map fun k => decide (k ∈ L)).map PyData.bool, ⟨rfl, rfl⟩, ?_, ?_, ?_⟩
      · rw [List.length_map, labs_len]
        exact Nat.lt_of_le_of_lt (Nat.le_trans (List.length_filter_le _ _) hp2.1) (by decide)
      · rintro j acc m2 d hd ⟨rfl, rfl⟩
        obtain ⟨s, hs, hm, rfl⟩ := labs_item hd
        refine wg_name ⟨rfl, ?_⟩ (Nat.le_of_ble_eq_true rfl) (by decide)
        refine wt_yes ⟨fun _ => ?_, fun z => nomatch z⟩
        walk_at "WK"
        refine ⟨hp2.shp (List.mem_filter.mp hm).1, shp_pile (fun k hk => okLab_gd (hpL.2 k hk)), ?_⟩
        rw [mem_lab]
        refine ⟨rfl, ?_⟩
        rw [List.take_add_one, hs, List.map_append, List.map_append]
        rfl
      · rintro acc m2 ⟨rfl, rfl⟩
        walk_at "WK"
        refine cw_all rfl (one_mk (ls_py ⟨_, rfl, ?_⟩))
        dsimp only
        rw [List.length_map, labs_len, List.take_length]
        have ha : (((goal.filter isStr).map fun k => decide (k ∈ L)).all id) = okF pl goal i := by rw [hon, List.all_map]; rfl
        rw [ha]
        walk_at "WK"
        refine ⟨fun q1 => ?_, fun q1 => ?_⟩
        · rw [if_pos q1] at hb1
          walk_at "WK"
          refine ⟨(L, goal), rfl, ⟨hpL, hp2⟩, ?_⟩
          rintro d m2 ⟨rfl, rfl⟩
          refine ⟨rfl, ?_⟩
          dsimp only
          walk_at "WK"
          rw [← hnum]
          unfold bestI at h4 ⊢
          rw [hb1]
          cases q : bestK pl goal i with
          | none =>
            rw [q] at h4
            subst h4
            refine rw_isNN ?_
            walk_at "WK"
            refine ⟨fun z => (nomatch z), fun _ => ⟨fun _ => ?_, fun z => (nomatch z)⟩⟩
            walk_at "WK"
            exact ⟨_, _, _, _, _, rfl, rfl⟩
          | some b =>
            rw [q] at h4
            subst h4
            refine rw_isN rfl ?_
            walk_at "WK"
            refine ⟨fun _ => ?_, fun z => (nomatch z)⟩
            walk_at "WK"
            refine ⟨_, rfl, ?_⟩
            walk_at "WK"
            refine ⟨fun q2 => ?_, fun q2 => ?_⟩
            · have q2' := of_decide_eq_true q2
              walk_at "WK"
              refine ⟨_, _, _, _, _, ?_, rfl⟩
              dsimp only
              rw [if_pos q2']
            · have q2' := of_decide_eq_false q2
              walk_at "WK"
              refine ⟨_, _, _, _, _, ?_, rfl⟩
              dsimp only
              rw [if_neg q2']
        · rw [if_neg (by rw [q1]; exact fun z => nomatch z)] at hb1
          walk_at "WK"
          unfold bestI at h4 ⊢
          rw [hb1]
          exact ⟨_, _, _, _, _, h4, rfl⟩
    · rintro e1 ⟨d4, s5, s6, s7, s8, h4, rfl⟩
      walk_at "WK"
      refine ⟨⟨d4, rfl, ?_⟩, rfl⟩
      rw [seqI_len] at h4
      exact h4
def dueP (pl goal : List Key) : PyData := match dueF pl goal with
  | none => .none
  | some b => .int b
abbrev sp_fewest_between (K : PySem.W.Frag) : Sp := SpX (ι := List Key × List Key × List (Key × PyData)) K (fun x => [.py (pile x.1), .py (pile x.2.1), .dcl x.2.2]) (fun x _ => okPl x.1 ∧ okPl x.2.1 ∧ knownOk x.2.1 x.2.2) fun x n d m => d = .py (dueP x.1 x.2.1) ∧ m = n
theorem ln_fewest_between (x : List Key × List Key × List (Key × PyData)) : [D.py (pile x.1), .py (pile x.2.1), .dcl x.2.2].length = 3 := rfl
theorem nm_fewest_between (x : List Key × List Key × List (Key × PyData)) : [D.py (pile x.1), .py (pile x.2.1), .dcl x.2.2].all D.nm = true := rfl
theorem sc_fewest_between : FnScope ["pile", "goal", "known", "best"] ["pile", "goal", "known"] (defScope (top 48)) := ⟨rfl, rfl, rfl, by decide +kernel, rfl, by decide +kernel, by decide +kernel⟩
theorem ok_fewest_between (F : FnP K "fewest_between" "fewest_between" (top 48) f fd) (S_best_between : Std P w K mg base 3 "best_between" ["pile", "goal", "known"] (sp_best_between K)) : FnOk P w K mg base CX0 4 f fd ["pile", "goal", "known"] (sp_fewest_between K) := by
  refine F.ok sc_fewest_between (sx_len ln_fewest_between) (fun cdv A outer s H vs Q E hr h => ?_)
  have nd := sc_fewest_between.nd
  refine ⟨_, PSs.nox (pss_cons (ps_set (i := 3) nd rfl (Or.inl rfl) (pe_std S_best_between hr rfl (pa_cons (pv 0) (pa_cons (pv 1) (pa_cons (pv 2) (pa_nil))))))
 (pss_one (ps_ret (pe_ifExp (pt_cmpR opISN (pv 3) (pe_non) (nomark _)) (pe_non) (pe_ix (ixK (K := K) rfl) (pv 3) (pe_int) (fun _ _ => rfl)))))), ?_⟩
  refine body_x nm_fewest_between ?_ vs H Q E h
  clear h hr
  intro c n x hK hp
  (subst hK)
  try clear S_best_between F
  obtain ⟨pl, goal, ds⟩ := x
  have hp' : okPl pl ∧ okPl goal ∧ knownOk goal ds := hp
  dsimp only
  walk_at "WK"
  refine ⟨(pl, goal, ds), rfl, hp', ?_⟩
  rintro d m ⟨⟨p, rfl, h⟩, rfl⟩
  refine ⟨rfl, ?_⟩
  unfold bestI at h
  unfold dueP dueF
  dsimp only at h
  rw [bestK_F]
  cases q : bestK pl goal (pl.length + 1) with
  | none =>
    rw [q] at h
    subst h
    walk_at "WK"
    refine rw_isNN ?_
    walk_at "WK"
    refine ⟨fun _ => ?_, fun z => (nomatch z)⟩
    walk_at "WK"
    first | exact ⟨rfl, rfl⟩ | exact rfl
  | some b =>
    rw [q] at h
    subst h
    walk_at "WK"
    refine rw_isN rfl ?_
    walk_at "WK"
    refine ⟨fun z => (nomatch z), fun _ => ?_⟩
    walk_at "WK"
    refine ⟨_, rfl, ?_⟩
    exact ⟨rfl, rfl⟩
abbrev sp_fewest (K : PySem.W.Frag) : Sp := SpX (ι := List Key × List Key) K (fun x => [.py (pile x.1), .py (pile x.2)]) (fun x _ => okPl x.1 ∧ okPl x.2) fun x n d m => d = .py (dueP x.1 x.2) ∧ m = n
theorem ln_fewest (x : List Key × List Key) : [D.py (pile x.1), .py (pile x.2)].length = 2 := rfl
theorem nm_fewest (x : List Key × List Key) : [D.py (pile x.1), .py (pile x.2)].all D.nm = true := rfl
theorem sc_fewest : FnScope ["pile", "goal"] ["pile", "goal"] (defScope (top 54)) := ⟨rfl, rfl, rfl, by decide +kernel, rfl, by decide +kernel, by decide +kernel⟩
theorem ok_fewest (F : FnP K "fewest" "fewest" (top 54) f fd) (S_require_pile : Std P w K mg base 5 "require_pile" ["value"] (sp_require_pile K)) (S_fewest_between : Std P w K mg base 4 "fewest_between" ["pile", "goal", "known"] (sp_fewest_between K)) (S_words_known : Std P w K mg base 4 "words_known" ["goal"] (sp_words_known K)) : FnOk P w K mg base CX0 6 f fd ["pile", "goal"] (sp_fewest K) := by
  refine F.ok sc_fewest (sx_len ln_fewest) (fun cdv A outer s H vs Q E hr h => ?_)
  have nd := sc_fewest.nd
  refine ⟨_, PSs.nox (pss_cons (ps_expr (pe_std S_require_pile hr rfl (pa_cons (pv 0) (pa_nil))))
 (pss_cons (ps_expr (pe_std S_require_pile hr rfl (pa_cons (pv 1) (pa_nil))))
 (pss_one (ps_ret (pe_std S_fewest_between (hr.mono (by decide)) rfl (pa_cons (pv 0) (pa_cons (pv 1) (pa_cons (pe_std S_words_known (hr.mono (by decide)) rfl (pa_cons (pv 1) (pa_nil))) (pa_nil))))))))), ?_⟩
  refine body_x nm_fewest ?_ vs H Q E h
  clear h hr
  intro c n x hK hp
  (subst hK)
  try clear S_require_pile S_fewest_between S_words_known F
  obtain ⟨pl, goal⟩ := x
  obtain ⟨hp1, hp2⟩ : okPl pl ∧ okPl goal := hp
  dsimp only
  walk_at "WK"
  refine ⟨pl, rfl, hp1, ?_⟩
  rintro d m ⟨rfl, rfl⟩
  refine ⟨rfl, ?_⟩
  walk_at "WK"
  refine ⟨goal, rfl, hp2, ?_⟩
  rintro d m ⟨rfl, rfl⟩
  refine ⟨rfl, ?_⟩
  walk_at "WK"
  refine ⟨goal, rfl, hp2, ?_⟩
  rintro d m ⟨⟨ds, rfl, hk, _⟩, rfl⟩
  refine ⟨rfl, ?_⟩
  walk_at "WK"
  refine ⟨(pl, goal, ds), rfl, ⟨hp1, hp2, hk⟩, ?_⟩
  rintro d m ⟨rfl, rfl⟩
  refine ⟨rfl, ?_⟩
  exact ⟨rfl, rfl⟩
end
end Wx

/-! ### part X3 -/
set_option Elab.async false
set_option linter.all false
set_option maxRecDepth 100000
set_option maxHeartbeats 1000000
set_option autoImplicit false
namespace Wx
open PySem L2
/-! ## the draws -/
def Vl (te : TE) (σ : St) (H : Hp) (v : V) : Prop := ∀ Q : VK, Q v H → te σ H Q
theorem vl_c {σ : St} {H : Hp} {v : V} : Vl (tC v) σ H v := fun _ q => q
theorem vl_v {σ : St} {H : Hp} {i : Nat} {v : V} (h : σ[i]? = some (some v)) : Vl (tVar i) σ H v := fun _ q => ⟨v, h, q⟩
theorem vl_op {σ : St} {H : Hp} {r : R2} {ta tb : TE} {x y z : V} (a : Vl ta σ H x) (b : Vl tb σ H y) (h : ∀ Q : VK, Q z H → r x y H Q) : Vl (tOp r ta tb) σ H z := fun Q q => a _ (b _ (h Q q))
theorem vl_i0 {σ : St} {H : Hp} {g : Int → Int → V} {ta tb : TE} {i j : Int} (a : Vl ta σ H (.int i)) (b : Vl tb σ H (.int j)) : Vl (tOp (rI0 g) ta tb) σ H (g i j) := vl_op a b fun Q q => ⟨i, j, rfl, rfl, q⟩
theorem vl_i {σ : St} {H : Hp} {C : Int → Int → Prop} {g : Int → Int → V} {ta tb : TE} {i j : Int} (a : Vl ta σ H (.int i)) (b : Vl tb σ H (.int j)) (c : C i j) : Vl (tOp (rI C g) ta tb) σ H (g i j) := vl_op a b fun Q q => ⟨i, j, rfl, rfl, c, q⟩
theorem vl_add {K : PySem.W.Frag} {σ : St} {H : Hp} {ta tb : TE} {i j : Int} (a : Vl ta σ H (.int i)) (b : Vl tb σ H (.int j)) : Vl (tOp (rADD K) ta tb) σ H (.int (i + j)) := vl_op a b fun Q q => .inl ⟨i, j, rfl, rfl, q⟩
theorem vl_mul {σ : St} {H : Hp} {ta tb : TE} {i j : Int} (a : Vl ta σ H (.int i)) (b : Vl tb σ H (.int j)) (c : CMulW i j) : Vl (tOp rMUL ta tb) σ H (.int (i * j)) := vl_op a b fun Q q => .inl ⟨i, j, rfl, rfl, c, q⟩
theorem vl_pow {σ : St} {H : Hp} {ta tb : TE} {i j : Int} (a : Vl ta σ H (.int i)) (b : Vl tb σ H (.int j)) (c : 2 ≤ i ∧ 1 ≤ j ∧ i < 2 ^ 600 ∧ j ≤ 60) : Vl (tOp rPOW ta tb) σ H (.int (i ^ j.toNat)) := vl_i (g := fun i j => .int (i ^ j.toNat)) a b c
theorem vl_ix {K : PySem.W.Frag} {σ : St} {H : Hp} {ta tb : TE} {p : Addr} {xs : List V} {i : Int} {v : V} (a : Vl ta σ H (.ref p)) (b : Vl tb σ H (.int i)) (h : H p = some (.lst xs)) (g : atI xs i = some v) : Vl (tOp (rIx K) ta tb) σ H v := vl_op a b fun Q q => .inl ⟨p, xs, i, v, rfl, rfl, SqL.of h, g, q⟩
theorem ts_set {σ : St} {H : Hp} {te : TE} {i : Nat} {v : V} {Dn : Ends} (a : Vl te σ H v) (h : Dn.nx (σ.set i (some v)) H) : tAsg te (gName i) Dn σ H := a _ h
theorem ts_sub {σ : St} {H : Hp} {te to ti : TE} {v : V} {p : Addr} {xs : List V} {k : Int} {j : Nat} {Dn : Ends} (a : Vl te σ H v) (b : Vl to σ H (.ref p)) (d : Vl ti σ H (.int k)) (h : H p = some (.lst xs)) (hj : ixN xs.length k = some j) (q : Dn.nx σ (upd H p (.lst (xs.set j v)))) : tAsg te (gSub to ti rSetL) Dn σ H :=
  a _ (b _ (d _ ⟨p, xs, k, j, rfl, rfl, h, hj, q⟩))
theorem ts_seq {σ : St} {H : Hp} {t u : TS} {Dn : Ends} (h : t { Dn with nx := u Dn } σ H) : tSeq t u Dn σ H := h
theorem ts_if {σ : St} {H : Hp} {te : TE} {b : Bool} {t u : TS} {Dn : Ends} (a : Vl te σ H (.bl b)) (h1 : b = true → t Dn σ H) (h2 : b = false → u Dn σ H) : tIfS (tTest te) t u Dn σ H := a _ ⟨b, rfl, by
  cases b with
  | true => exact iteT (h1 rfl)
  | false => exact iteF (h2 rfl)⟩
theorem ts_ret {σ : St} {H : Hp} {te : TE} {v : V} {Dn : Ends} (a : Vl te σ H v) (h : Dn.rt v H) : tRet te Dn σ H := a _ h
theorem ts_next {σ : St} {H : Hp} {Dn : Ends} (h : Dn.nx σ H) : tNext Dn σ H := h
theorem upd_upd {H : Hp} {p : Addr} {o u : HO} : upd (upd H p o) p u = upd H p u := by
  funext a
  by_cases q : a = p
  · rw [q, upd_same, upd_same]
  · rw [upd_ne q, upd_ne q, upd_ne q]
theorem pos_fmod {i j : Int} (h : 0 < j) : 0 ≤ i.fmod j ∧ i.fmod j < j := by
  rw [Int.fmod_eq_emod_of_nonneg i (by omega)]
  exact ⟨Int.emod_nonneg i (by omega), Int.emod_lt_of_pos i h⟩
theorem vl_len {K : PySem.W.Frag} {σ : L2.St} {H : Hp} {ta : TE} {p : Addr} {xs : List V} (a : Vl ta σ H (.ref p)) (h : SqL K H p xs) : Vl (tCB (rLEN K) (tCons ta tNil)) σ H (.int xs.length) := fun Q q => a _ ⟨.ref p, xs.length, rfl, .inl ⟨xs, h, rfl⟩, q⟩
theorem vl_max {σ : L2.St} {H : Hp} {ta tb : TE} {i j : Int} (a : Vl ta σ H (.int i)) (b : Vl tb σ H (.int j)) : Vl (tCB rMAX2 (tCons ta (tCons tb tNil))) σ H (.int (if j > i then j else i)) := fun Q q => a _ (b _ ⟨i, j, rfl, q⟩)
theorem vl_ixl {K : PySem.W.Frag} {σ : L2.St} {H : Hp} {ta tb : TE} {p : Addr} {xs : List V} {i : Int} {v : V} (a : Vl ta σ H (.ref p)) (b : Vl tb σ H (.int i)) (h : SqL K H p xs) (g : atI xs i = some v) : Vl (tOp (rIx K) ta tb) σ H v := vl_op a b fun Q q => .inl ⟨p, xs, i, v, rfl, rfl, h, g, q⟩
theorem vl_if {σ : L2.St} {H : Hp} {te ta tb : TE} {b : Bool} {v : V} (a : Vl te σ H (.bl b)) (h1 : b = true → Vl ta σ H v) (h2 : b = false → Vl tb σ H v) : Vl (tIf (tTest te) ta tb) σ H v := fun Q q => a _ ⟨b, rfl, by
  cases b with
  | true => exact iteT (h1 rfl Q q)
  | false => exact iteF (h2 rfl Q q)⟩
section
variable {P : Program} {w : World} {K : PySem.W.Frag} {mg : Str → Option Value} {base : Heap} {f C : Addr} {fd : FuncData}
theorem sc__law_jar : FnScope ["script", "k", "cell"] ["script", "k"] (defScope (top 57)) := ⟨rfl, rfl, rfl, by decide +kernel, rfl, by decide +kernel, by decide +kernel⟩
theorem ok__law_jar (F : FnP K "_law_jar" "_law_jar" (top 57) f fd) (g_len : mg "len" = none) (g_max : mg "max" = none) : FnOk P w K mg base CX0 1 f fd ["script", "k"] (spKiln K) := by
  refine F.ok sc__law_jar (fun vs H Q E h => by obtain ⟨a, ns, k, rfl, _⟩ := h; rfl) (fun cdv A outer s H vs Q E hr h => ?_)
  have nd := sc__law_jar.nd
  refine ⟨_, PSs.nox (pss_cons (ps_set (i := 2) nd rfl (Or.inl rfl) (pe_ifExp (pt_cmpR op_lt (pv 1) (pe_callB (lenK (K := K) rfl) rfl g_len PySem.boot_len (pa_cons (pv 0) (pa_nil))) (nomark _)) (pe_ix (ixK (K := K) rfl) (pv 0) (pv 1) (fun _ _ => rfl)) (pe_int)))
 (pss_one (ps_ret (pe_lst (pa_cons (pe_callB (callMAX2 rfl) rfl g_max bt_max (pa_cons (pe_int) (pa_cons (pe_op op_sub (pv 2) (pe_op opPOW (pe_int) (pe_int))) (pa_nil)))) (pa_cons (pe_op (addK (K := K) rfl) (pe_op opMUL (pe_op op_modN (pv 2) (pe_op (addK (K := K) rfl) (pe_op opPOW (pe_int) (pe_int)) (pe_int))) (pe_int)) (pv 1)) (pa_cons (pe_int) (pa_nil)))))))), ?_⟩
  clear hr
  obtain ⟨a, ns, k, rfl, hS, k0, k1, fin⟩ := h
  have p18 : (10 : Int) ^ (18 : Int).toNat = 10 ^ 18 := by decide +kernel
  have p41 : (10 : Int) ^ (41 : Int).toNat + 109 = 100000000000000000000000000000000000000109 := by decide +kernel
  have last : ∀ v : Int, (tRet (tLst (tCons (tCB rMAX2 (tCons (tC (.int 0)) (tCons (tOp (rI0 fun i j => V.int (i - j)) (tVar 2) (tOp rPOW (tC (.int 10)) (tC (.int 18)))) tNil))) (tCons (tOp (rADD K) (tOp rMUL (tOp (rI (fun _ j => j ≠ 0) fun i j => V.int (i.fmod j)) (tVar 2) (tOp (rADD K) (tOp rPOW (tC (.int 10)) (tC (.int 41))) (tC (.int 109)))) (tC (.int 64))) (tVar 1)) (tCons (tC (.int 0)) tNil))))) { nx := fun _ H' => Q .non H', rt := Q } [some (.ref a), some (.int k), some (.int v)] H := fun v => by
    have a1 := vl_max (σ := [some (V.ref a), some (.int k), some (.int v)]) (H := H) (vl_c (v := .int 0)) (vl_i0 (g := fun i j => V.int (i - j)) (vl_v (i := 2) rfl) (vl_pow (vl_c (v := .int 10)) (vl_c (v := .int 18)) ⟨by decide, by decide, by decide +kernel, by decide⟩))
    have m0 := pos_fmod (i := v) (j := 100000000000000000000000000000000000000109) (by decide)
    have a2 := vl_add (K := K) (σ := [some (V.ref a), some (.int k), some (.int v)]) (H := H) (vl_mul (vl_i (C := fun _ j => j ≠ 0) (g := fun i j => V.int (i.fmod j)) (vl_v (i := 2) rfl) (vl_add (K := K) (vl_pow (vl_c (v := .int 10)) (vl_c (v := .int 41)) ⟨by decide, by decide, by decide +kernel, by decide⟩) (vl_c (v := .int 109))) (by rw [p41]; decide)) (vl_c (v := .int 64)) (wide_mul (a := 200) (b := 30) (by rw [p41]; omega) (by decide) (by decide) (by decide) (by decide))) (vl_v (i := 1) rfl)
    refine a1 _ (a2 _ ⟨by show 3 ≤ sizeLine; decide, fun p hp => ?_⟩)
    refine fin _ _ p (by split <;> omega) ?_ ?_ hp
    · rw [p41]; omega
    · rw [p41]; omega
  have cell : ∀ v : Int, Vl (tIf (tTest (tOp (rI0 fun i j => V.bl (decide (i < j))) (tVar 1) (tCB (rLEN K) (tCons (tVar 0) tNil)))) (tOp (rIx K) (tVar 0) (tVar 1)) (tC (V.int 0))) [some (.ref a), some (.int k), none] H (.int v) → tSeq (tAsg (tIf (tTest (tOp (rI0 fun i j => V.bl (decide (i < j))) (tVar 1) (tCB (rLEN K) (tCons (tVar 0) tNil)))) (tOp (rIx K) (tVar 0) (tVar 1)) (tC (V.int 0))) (gName 2)) (tRet (tLst (tCons (tCB rMAX2 (tCons (tC (.int 0)) (tCons (tOp (rI0 fun i j => V.int (i - j)) (tVar 2) (tOp rPOW (tC (.int 10)) (tC (.int 18)))) tNil))) (tCons (tOp (rADD K) (tOp rMUL (tOp (rI (fun _ j => j ≠ 0) fun i j => V.int (i.fmod j)) (tVar 2) (tOp (rADD K) (tOp rPOW (tC (.int 10)) (tC (.int 41))) (tC (.int 109)))) (tC (.int 64))) (tVar 1)) (tCons (tC (.int 0)) tNil))))) { nx := fun _ H' => Q .non H', rt := Q } [some (.ref a), some (.int k), none] H := fun v hv => ts_seq (ts_set hv (last v))
  by_cases h1 : k < ((ns.map V.int).length : Int)
  · have h2 := h1
    rw [List.length_map] at h2
    obtain ⟨j, rfl⟩ := Int.eq_ofNat_of_zero_le k0
    have h3 : j < ns.length := by omega
    exact cell ns[j] (vl_if (b := decide ((j : Int) < ((ns.map V.int).length : Int))) (vl_i0 (g := fun i j => V.bl (decide (i < j))) (vl_v rfl) (vl_len (vl_v rfl) hS)) (fun _ => vl_ixl (vl_v rfl) (vl_v rfl) hS (atI_nat (by rw [List.getElem?_map, List.getElem?_eq_getElem h3] <;> rfl))) fun z => absurd h1 (of_decide_eq_false z))
  · exact cell 0 (vl_if (b := decide (k < ((ns.map V.int).length : Int))) (vl_i0 (g := fun i j => V.bl (decide (i < j))) (vl_v rfl) (vl_len (vl_v rfl) hS)) (fun z => absurd (of_decide_eq_true z) h1) fun _ => vl_c)
abbrev sp__law_ladle (K : PySem.W.Frag) : Sp := SpX (ι := Int) K (fun b => [.kln, .py (.int b)]) (fun b n => 0 < b ∧ b < 2 ^ 200 ∧ n < 2 ^ 100) fun b n d m => ∃ r : Int, d = .py (.int r) ∧ 0 ≤ r ∧ r < b ∧ m = n + 1
theorem ln__law_ladle (b : Int) : [D.kln, .py (.int b)].length = 2 := rfl
theorem nm__law_ladle (b : Int) : [D.kln, .py (.int b)].all D.nm = true := rfl
theorem sc__law_ladle : FnScope ["jar", "many", "mixed", "found"] ["jar", "many"] (defScope (top 58)) := ⟨rfl, rfl, rfl, by decide +kernel, rfl, by decide +kernel, by decide +kernel⟩
theorem ok__law_ladle (F : FnP K "_law_ladle" "_law_ladle" (top 58) f fd)  : FnOk P w K mg base CX0 1 f fd ["jar", "many"] (sp__law_ladle K) := by
  refine F.ok sc__law_ladle (sx_len ln__law_ladle) (fun cdv A outer s H vs Q E hr h => ?_)
  have nd := sc__law_ladle.nd
  refine ⟨_, PSs.nox (pss_cons (ps_if (pt_cmpR op_gt (pe_ix (ixK (K := K) rfl) (pv 0) (pe_int) (fun _ _ => rfl)) (pe_int) (nomark _)) (pss_cons (ps_set (i := 3) nd rfl (Or.inl rfl) (pe_op op_modN (pe_ix (ixK (K := K) rfl) (pv 0) (pe_int) (fun _ _ => rfl)) (pv 1)))
 (pss_cons (ps_asg (pe_op op_fdivW (pe_ix (ixK (K := K) rfl) (pv 0) (pe_int) (fun _ _ => rfl)) (pv 1)) (pg_sub (pv 0) (pe_int) set_list))
 (pss_one (ps_ret (pv 3))))) (pss_nil))
 (pss_cons (ps_asg (pe_op (addK (K := K) rfl) (pe_ix (ixK (K := K) rfl) (pv 0) (pe_int) (fun _ _ => rfl)) (pe_int)) (pg_sub (pv 0) (pe_int) set_list))
 (pss_cons (ps_set (i := 2) nd rfl (Or.inl rfl) (pe_op op_modN (pe_op opPOW (pe_op (addK (K := K) rfl) (pe_ix (ixK (K := K) rfl) (pv 0) (pe_int) (fun _ _ => rfl)) (pe_op opMUL (pe_int) (pe_ix (ixK (K := K) rfl) (pv 0) (pe_int) (fun _ _ => rfl)))) (pe_int)) (pe_op (addK (K := K) rfl) (pe_op opPOW (pe_int) (pe_int)) (pe_int))))
 (pss_cons (ps_set (i := 2) nd rfl (Or.inl rfl) (pe_op op_modN (pe_op opPOW (pe_op (addK (K := K) rfl) (pv 2) (pe_op opMUL (pe_int) (pe_ix (ixK (K := K) rfl) (pv 0) (pe_int) (fun _ _ => rfl)))) (pe_int)) (pe_op (addK (K := K) rfl) (pe_op opPOW (pe_int) (pe_int)) (pe_int))))
 (pss_one (ps_ret (pe_op op_modN (pe_op op_fdivW (pv 2) (pe_int)) (pv 1)))))))), ?_⟩
  refine body_x nm__law_ladle ?_ vs H Q E h
  clear h hr
  intro c n x hK hp
  (subst hK)
  try clear F
  refine ⟨fun σ A H o Dn nx rt _ _ => ?_⟩
  obtain ⟨_, v0, s0, p, rfl, hk⟩ := o.val 0 .kln rfl
  obtain ⟨_, v1, s1, x1⟩ := o.val 1 (.py (.int x)) rfl
  cases Da.int_eq x1
  obtain ⟨a, b, m, hq, ha, hb, hb2, hm, hmn⟩ := o.good.kl p hk
  obtain ⟨b0, b1, nb⟩ := hp
  have len : σ.length = 4 := o.len
  have hmn' : m ≤ (n : Int) := hmn
  have g2 : ∀ {u : Option V} {y : Option V}, (σ.set 3 y)[0]? = some (some (V.ref p)) ∧ (σ.set 3 y)[1]? = some (some (V.int x)) ∧ (σ.set 3 y)[3]? = some y := fun {u y} =>
    ⟨by rw [List.getElem?_set_ne (by decide)]; exact s0, by rw [List.getElem?_set_ne (by decide)]; exact s1, List.getElem?_set_self (by omega)⟩
  have fin : ∀ (a' m' r : Int), 0 ≤ a' → 0 ≤ m' → m' ≤ (n : Int) + 1 → 0 ≤ r → r < x → Dn.rt (.int r) (upd H p (.lst [.int a', .int b, .int m'])) := fun a' m' r q1 q2 q3 q4 q5 => by
    refine rt (.int r) _ (.py (.int r)) (n + 1) ⟨r, rfl, q4, q5, rfl⟩ (fun z u nn e => by rw [upd_ne (fun q => nn (.inl (by rw [q]; exact hk)))]; exact e) ⟨fun z s => ?_, fun z e => ?_⟩ (.int r)
    · by_cases q : z = p
      · rw [q, upd_same]; exact fun w => nomatch w
      · rw [upd_ne q]; exact o.good.al z s
    · have q : z = p := by rw [hk] at e; exact (Option.some.inj e).symm
      rw [q]
      exact ⟨a', b, m', upd_same, q1, hb, hb2, q2, by show m' ≤ ((n + 1 : Nat) : Int); omega⟩
  refine ts_seq (ts_if (b := decide (0 < a)) (vl_i0 (g := fun i j => V.bl (decide (j < i))) (vl_ix (vl_v s0) vl_c hq rfl) vl_c) (fun h1 => ?_) (fun h1 => ?_))
  · have h1' := of_decide_eq_true h1
    refine ts_seq (ts_set (vl_i (g := fun i j => V.int (i.fmod j)) (vl_ix (vl_v s0) vl_c hq rfl) (vl_v s1) (by omega)) ?_)
    obtain ⟨w0, w1, w3⟩ := @g2 none (some (V.int (a.fmod x)))
    refine ts_seq (ts_sub (vl_i (g := fun i j => V.int (i / j)) (vl_ix (vl_v w0) vl_c hq rfl) (vl_v w1) (wide_div (b := 200) b0 (by omega) (by decide) (by decide))) (vl_v w0) vl_c hq (j := 0) rfl ?_)
    exact ts_ret (vl_v w3) (fin (a / x) m (a.fmod x) (Int.ediv_nonneg ha (by omega)) hm (by omega) (pos_fmod b0).1 (pos_fmod b0).2)
  · refine ts_next ?_
    have q0 : (upd H p (.lst [V.int a, .int b, .int (m + 1)])) p = some (.lst [V.int a, .int b, .int (m + 1)]) := upd_same
    refine ts_seq (ts_sub (vl_add (vl_ix (vl_v s0) vl_c hq rfl) vl_c) (vl_v s0) vl_c hq (j := 2) rfl ?_)
    have n1 : m + 1 < 2 ^ 101 := by omega
    have p47 : (10 : Int) ^ (47 : Int).toNat + 63 = 100000000000000000000000000000000000000000000063 := by decide +kernel
    have p44 : (10 : Int) ^ (44 : Int).toNat + 57 = 100000000000000000000000000000000000000000057 := by decide +kernel
    have b1 : b + 198491317 * (m + 1) < 2 ^ 600 := by omega
    refine ts_seq (ts_set (vl_i (g := fun i j => V.int (i.fmod j)) (vl_pow (vl_add (vl_ix (vl_v s0) vl_c q0 rfl) (vl_mul vl_c (vl_ix (vl_v s0) vl_c q0 rfl) (wide_mul (a := 30) (b := 101) (by decide) (by omega) (by decide) (by decide) (by decide)))) vl_c ⟨by omega, by decide, b1, by decide⟩) (vl_add (vl_pow vl_c vl_c ⟨by decide, by decide, by decide +kernel, by decide⟩) vl_c) (by rw [p47]; decide)) ?_)
    rw [p47]
    generalize hz : ((b + 198491317 * (m + 1)) ^ (3 : Int).toNat).fmod 100000000000000000000000000000000000000000000063 = z
    have z0 := pos_fmod (i := (b + 198491317 * (m + 1)) ^ (3 : Int).toNat) (j := 100000000000000000000000000000000000000000000063) (by decide)
    rw [hz] at z0
    have s0' : (σ.set 2 (some (V.int z)))[0]? = some (some (V.ref p)) := by rw [List.getElem?_set_ne (by decide)]; exact s0
    have s2' : (σ.set 2 (some (V.int z)))[2]? = some (some (V.int z)) := List.getElem?_set_self (by omega)
    have b2 : z + 71425349 * (m + 1) < 2 ^ 600 := by omega
    refine ts_seq (ts_set (vl_i (g := fun i j => V.int (i.fmod j)) (vl_pow (vl_add (vl_v s2') (vl_mul vl_c (vl_ix (vl_v s0') vl_c q0 rfl) (wide_mul (a := 30) (b := 101) (by decide) (by omega) (by decide) (by decide) (by decide)))) vl_c ⟨by omega, by decide, b2, by decide⟩) (vl_add (vl_pow vl_c vl_c ⟨by decide, by decide, by decide +kernel, by decide⟩) vl_c) (by rw [p44]; decide)) ?_)
    rw [p44, List.set_set]
    generalize hy : ((z + 71425349 * (m + 1)) ^ (3 : Int).toNat).fmod 100000000000000000000000000000000000000000057 = y
    have s1'' : (σ.set 2 (some (V.int y)))[1]? = some (some (V.int x)) := by rw [List.getElem?_set_ne (by decide)]; exact s1
    have s2'' : (σ.set 2 (some (V.int y)))[2]? = some (some (V.int y)) := List.getElem?_set_self (by omega)
    refine ts_ret (vl_i (g := fun i j => V.int (i.fmod j)) (vl_i (g := fun i j => V.int (i / j)) (vl_v s2'') vl_c (wide_div (b := 200) (by decide) (by decide) (by decide) (by decide))) (vl_v s1'') (by omega)) ?_
    exact fin a (m + 1) _ ha (by omega) (by omega) (pos_fmod b0).1 (pos_fmod b0).2
end
section
variable {c : Cy} {Φ : D → Nat → Prop}
theorem wp_ladle {sl : List Slo} {nn : Nat} {tb : TE} {i : Nat} {K : PySem.W.Frag} (hK : K = c.K) (h0 : sl[i]? = some (.val .kln)) (h : Wp c tb ⟨sl, nn⟩ fun d n => ∃ b, d = .py (.int b) ∧ 0 < b ∧ b < 2 ^ 200 ∧ n < 2 ^ 100 ∧ ∀ r, 0 ≤ r → r < b → Φ (.py (.int r)) (n + 1)) :
    Wp c (tCall (sp__law_ladle K) [] E0 (tCons (tVar i) (tCons tb tNil))) ⟨sl, nn⟩ Φ := by
  refine wp_cx hK (wa_cons (wp_var h0 (wa_cons (h.mono fun d n q => wa_nil ?_))))
  obtain ⟨b, rfl, h1, h2, h3, h4⟩ := q
  refine ⟨rfl, b, rfl, ⟨h1, h2, h3⟩, ?_⟩
  rintro d m ⟨r, rfl, r0, r1, rfl⟩
  exact ⟨rfl, h4 r r0 r1⟩
theorem ws_join {sl : List Slo} {nn : Nat} {t u : TS} {P : Po} (J : En → Prop) (h : Ws c t ⟨sl, nn⟩ ⟨J, P.rt, P.bk, P.ct⟩) (k : ∀ e1, J e1 → Ws c u e1 P) : Ws c (tSeq t u) ⟨sl, nn⟩ P :=
  ws_seq ⟨fun σ A H o Dn nx rt bk ct => h.run σ A H o Dn (fun σ' A' H' e' j kp w o' => nx σ' A' H' e' (k e' j) kp w o') rt bk ct⟩
theorem rw_ixS2 {K : PySem.W.Frag} {z : Str} {i : Int} {n : Nat} (h : z.length ≤ sizeLine ∧ ∃ ch, atI z.cps.toList i = some ch ∧ Φ (.py (.str ⟨#[ch]⟩)) n) : Rw c (rIx K) (.py (.str z)) (.py (.int i)) n Φ := by
  obtain ⟨h1, ch, h2, h3⟩ := h
  exact rw_ixS h1 h2 h3
theorem ws_mid {e : En} {t : TS} {P : Po} (J : En → Prop) (h : Ws c t e ⟨J, P.rt, P.bk, P.ct⟩) (k : ∀ e1, J e1 → P.nx e1) : Ws c t e P :=
  ⟨fun σ A H o Dn nx rt bk ct => h.run σ A H o Dn (fun σ' A' H' e' j kp w o' => nx σ' A' H' e' (k e' j) kp w o') rt bk ct⟩
theorem wt_mono {e : En} {t : TT} {Ψ Θ : Bool → Nat → Prop} (h : Wt c t e Θ) (w : ∀ b n, Θ b n → Ψ b n) : Wt c t e Ψ := ⟨fun σ A H o Q k => h.run σ A H o Q fun b H2 n p => k b H2 n (w b n p)⟩
end
end Wx

/-! ### part T6 -/
set_option Elab.async false
set_option linter.all false
set_option maxRecDepth 100000
set_option maxHeartbeats 1000000
set_option autoImplicit false
namespace Wx
open PySem L2
theorem wd_nein {w : Wd} {a : Nat} (h : a < 45 ∨ 114 < a) : ¬ sg [a] = w.tx := fun z => of_decide_eq_false (wd_ne w h) z.symm

section
variable {P : Program} {w : World} {K : PySem.W.Frag} {mg : Str → Option Value} {base : Heap} {f C : Addr} {fd : FuncData}
def nodeW (i : Nat) (w : Wd) : PyData := .tuple [.str (Str.ofString "do"), .str w.tx, .int (i : Int)]
def nodesW (ws : List Wd) : List PyData := ws.mapIdx nodeW
theorem nodesW_snoc (ws : List Wd) (w : Wd) : nodesW (ws ++ [w]) = nodesW ws ++ [nodeW ws.length w] := by
  unfold nodesW
  rw [List.mapIdx_append]
  simp
theorem nodesW_len (ws : List Wd) : (nodesW ws).length = ws.length := List.length_mapIdx
theorem wtx_get {ws : List Wd} {i : Nat} {w : Wd} (h : ws[i]? = some w) : atI (wtx ws) (i : Int) = some (.str w.tx) := atI_nat (by unfold wtx; rw [List.getElem?_map, h] <;> rfl)
abbrev sp_nodes_from (K : PySem.W.Frag) : Sp := SpX (ι := List Wd) K (fun ws => [.py (.list (wtx ws)), .py (.int 0)]) (fun ws _ => ws.length ≤ 1000 ∧ ∀ w ∈ ws, okWd w) fun ws n d m => d = .py (.tuple [.tuple (nodesW ws), .int (ws.length : Int)]) ∧ m = n
theorem ln_nodes_from (ws : List Wd) : [D.py (.list (wtx ws)), .py (.int 0)].length = 2 := rfl
theorem nm_nodes_from (ws : List Wd) : [D.py (.list (wtx ws)), .py (.int 0)].all D.nm = true := rfl
theorem sc_nodes_from : FnScope ["words", "place", "found", "at", "body", "first", "middle", "second"] ["words", "place"] (defScope (top 27)) := ⟨rfl, rfl, rfl, by decide +kernel, rfl, by decide +kernel, by decide +kernel⟩
theorem ok_nodes_from (F : FnP K "nodes_from" "nodes_from" (top 27) f fd) (g_len : mg "len" = none) (g_int : mg "int" = none) (g_tuple : mg "tuple" = none) : FnOk P w K mg base CX0 1 f fd ["words", "place"] (sp_nodes_from K) := by
  refine F.ok sc_nodes_from (sx_len ln_nodes_from) (fun cdv A outer s H vs Q E hr h => ?_)
  have nd := sc_nodes_from.nd
  refine ⟨_, PSs.nox (pss_cons (ps_setO (i := 2) nd rfl (Or.inl rfl) (pe_lst (pa_nil)))
 (pss_cons (ps_while PassesOwn.never (PW.pt (pw_and (pt_cmpR op_lt (pv 1) (pe_callB (lenK (K := K) rfl) rfl g_len PySem.boot_len (pa_cons (pv 0) (pa_nil))) (nomark _)) (pw_and (pt_cmpR (niK (K := K) rfl (room65 hr)) (pe_ix (ixK (K := K) rfl) (pv 0) (pv 1) (fun _ _ => rfl)) (pe_tup (pa_cons (pe_str) (pa_cons (pe_str) (pa_nil)))) (by rfl)) (pw_and1 (pt_cmpR (neK (K := K) rfl (room64 hr)) (pe_ix (ixK (K := K) rfl) (pe_ix (ixK (K := K) rfl) (pv 0) (pv 1) (fun _ _ => rfl)) (pe_int) (fun _ _ => rfl)) (pe_str) (nomark _)))))) (pss_cons (ps_set (i := 3) nd rfl (Or.inl rfl) (pv 1))
 (pss_cons (ps_if (pt_cmpR (eqK (K := K) rfl (room64 hr)) (pe_ix (ixK (K := K) rfl) (pv 0) (pv 3) (fun _ _ => rfl)) (pe_str) (nomark _)) (pss_cons (ps_never)
 (pss_one (ps_expr (pe_bm PySem.F.plainAttrs_list PySem.F.slot_list_append PySem.F.type_list_append mt_append (pv 2) (pa_cons (pe_tup (pa_cons (pe_str) (pa_cons (pe_callTy callINT1 rfl g_int bt_int (pa_cons (pe_slice (slK (K := K) rfl) (pe_ix (ixK (K := K) rfl) (pv 0) (pv 1) (fun _ _ => rfl)) (po_some (pe_int)) po_none) (pa_nil))) (pa_cons (pv 4) (pa_cons (pv 3) (pa_nil)))))) (pa_nil)))))) (pss_one (ps_if (pt_cmpR (eqK (K := K) rfl (room64 hr)) (pe_ix (ixK (K := K) rfl) (pv 0) (pv 3) (fun _ _ => rfl)) (pe_str) (nomark _)) (pss_cons (ps_never)
 (pss_cons (ps_never)
 (pss_one (ps_expr (pe_bm PySem.F.plainAttrs_list PySem.F.slot_list_append PySem.F.type_list_append mt_append (pv 2) (pa_cons (pe_tup (pa_cons (pe_str) (pa_cons (pv 5) (pa_cons (pv 7) (pa_cons (pv 3) (pa_nil)))))) (pa_nil))))))) (pss_one (ps_expr (pe_bm PySem.F.plainAttrs_list PySem.F.slot_list_append PySem.F.type_list_append mt_append (pv 2) (pa_cons (pe_tup (pa_cons (pe_str) (pa_cons (pe_ix (ixK (K := K) rfl) (pv 0) (pv 3) (fun _ _ => rfl)) (pa_cons (pv 3) (pa_nil))))) (pa_nil))))))))
 (pss_one (ps_set (i := 1) nd rfl (Or.inl rfl) (pe_op (addK (K := K) rfl) (pv 1) (pe_int)))))))
 (pss_one (ps_ret (pe_tup (pa_cons (pe_callTy (tupK (K := K) rfl) rfl g_tuple bt_tuple (pa_cons (pv 2) (pa_nil))) (pa_cons (pv 1) (pa_nil)))))))), ?_⟩
  refine body_x nm_nodes_from ?_ vs H Q E h
  clear h hr
  intro c n x hK hp
  (subst hK)
  try clear g_len g_int g_tuple F
  obtain ⟨h1, h2⟩ : x.length ≤ 1000 ∧ ∀ w ∈ x, okWd w := hp
  have z1 : 1001 ≤ sizeLine := by rw [sizeLine_eq]; decide
  walk_at "WK"
  refine ws_mid (fun e1 => ∃ s3 s4 s5 s6 s7, e1 = ⟨[.val (.py (.list (wtx x))), .val (.py (.int (x.length : Int))), .own (.lst (nodesW x)), s3, s4, s5, s6, s7], n⟩) ?_ ?_
  · refine ws_while (fun m e1 => ∃ i s3 s4 s5 s6 s7, m = x.length - i ∧ i ≤ x.length ∧ e1 = ⟨[.val (.py (.list (wtx x))), .val (.py (.int (i : Int))), .own (.lst (nodesW (x.take i))), s3, s4, s5, s6, s7], n⟩) ⟨x.length, 0, .emp, .emp, .emp, .emp, .emp, rfl, Nat.zero_le _, rfl⟩ ?_
    rintro m e1 ⟨i, s3, s4, s5, s6, s7, rfl, hi, rfl⟩
    walk_at "WK"
    rw [wtx_len]
    refine ⟨fun q1 => ?_, fun q1 => ⟨fun z => (nomatch z), fun _ => ?_⟩⟩
    · have q1' := of_decide_eq_true q1
      have hlt : i < x.length := by omega
      obtain ⟨w, hw⟩ : ∃ w, x[i]? = some w := ⟨_, List.getElem?_eq_getElem hlt⟩
      have hwm := List.mem_of_getElem? hw
      have okw := h2 w hwm
      have ts : x.take (i + 1) = x.take i ++ [w] := by rw [List.take_add_one, hw]; rfl
      have tl : (x.take i).length = i := by rw [List.length_take]; omega
      obtain ⟨ch, r, ew, c1, c2⟩ := wd_cons okw
      have hw33 := wd_len okw
      have l3 : w.tx.length ≤ sizeLine := by unfold Wd.tx; rw [sg_len]; exact Nat.le_trans hw33.2 (by rw [sizeLine_eq]; decide)
      walk_at "WK"
      refine ⟨_, wtx_get hw, ?_⟩
      walk_at "WK"
      have em : Mem (.str w.tx) [.str (Str.ofString "|"), .str (Str.ofString "}")] = false := by
        have e1 : ¬ Str.ofString "|" = w.tx := by rw [txt_i]; exact wd_nein (by decide)
        have e2 : ¬ Str.ofString "}" = w.tx := by rw [txt_f]; exact wd_nein (by decide)
        simp [Mem, eqv_strD, e1, e2]
      refine ⟨shp_wd w, by decide +kernel, ?_⟩
      rw [em]
      walk_at "WK"
      refine ⟨fun _ => ?_, fun z => (nomatch z)⟩
      walk_at "WK"
      refine ⟨_, wtx_get hw, ?_⟩
      walk_at "WK"
      refine ⟨l3, ch, at0 ew, ?_⟩
      walk_at "WK"
      rw [txt_e]
      refine ⟨shp_sg (l := [ch]) (by simp; omega), shp_sg (by simp), ?_⟩
      rw [show (⟨#[ch]⟩ : Str) = sg [ch] from rfl, eqv_sg, decide_eq_false (fun z => by have := (List.cons.inj z).1; omega)]
      walk_at "WK"
      refine ⟨fun _ => ?_, fun z => (nomatch z)⟩
      walk_at "WK"
      refine ⟨_, wtx_get hw, ?_⟩
      walk_at "WK"
      rw [txt_o]
      refine ⟨shp_wd w, shp_sg (by simp), ?_⟩
      rw [eqv_strD, wd_ne w (a := 40) (by decide)]
      walk_at "WK"
      refine ⟨fun z => (nomatch z), fun _ => ?_⟩
      walk_at "WK"
      refine ⟨_, wtx_get hw, ?_⟩
      walk_at "WK"
      rw [txt_b]
      refine ⟨shp_wd w, shp_sg (by simp), ?_⟩
      rw [eqv_strD, wd_ne w (a := 123) (by decide)]
      walk_at "WK"
      refine ⟨fun z => (nomatch z), fun _ => ?_⟩
      walk_at "WK"
      refine ⟨_, wtx_get hw, ?_⟩
      walk_at "WK"
      refine ⟨_, rfl, by rw [nodesW_len, tl]; omega, ?_⟩
      walk_at "WK"
      refine ⟨x.length - (i + 1), by omega, i + 1, .val (.py (.int (i : Int))), s4, s5, s6, s7, rfl, hlt, ?_⟩
      rw [ts, nodesW_snoc, tl]
      rfl
    · have q1' := of_decide_eq_false q1
      have hi2 : i = x.length := by omega
      subst hi2
      rw [List.take_length]
      exact ⟨_, _, _, _, _, rfl⟩
  rintro e1 ⟨s3, s4, s5, s6, s7, rfl⟩
  walk_at "WK"
  first | exact ⟨rfl, rfl⟩ | rfl
end
end Wx

/-! ### part T7 -/
set_option Elab.async false
set_option linter.all false
set_option maxRecDepth 100000
set_option maxHeartbeats 1000000
set_option autoImplicit false
namespace Wx
open PySem L2

def mxI (i j : Int) : Int := if j > i then j else i
def joinM (a b : Int × Int × Int) : Int × Int × Int := (mxI a.1 (b.1 - a.2.2), mxI a.2.1 (a.2.2 + b.2.1), a.2.2 + b.2.2)
def mWs (ws : List Wd) : Int × Int × Int := ws.foldl (fun m w => joinM m (mW w)) (0, 0, 0)
theorem mWs_snoc (ws : List Wd) (w : Wd) : mWs (ws ++ [w]) = joinM (mWs ws) (mW w) := by
  unfold mWs
  rw [List.foldl_append]
  rfl
theorem nodesW_item {ws : List Wd} {i : Nat} {d : D} (h : ((nodesW ws).map D.py)[i]? = some d) : ∃ w, ws[i]? = some w ∧ w ∈ ws ∧ d = .py (.tuple [.str (Str.ofString "do"), .str w.tx, .int (i : Int)]) := by
  unfold nodesW at h
  rw [List.getElem?_map, List.getElem?_mapIdx] at h
  cases q : ws[i]? with
  | none => rw [q] at h; cases h
  | some w => rw [q] at h; cases h; exact ⟨w, rfl, List.mem_of_getElem? q, rfl⟩
section
variable {P : Program} {w : World} {K : PySem.W.Frag} {mg : Str → Option Value} {base : Heap} {f C : Addr} {fd : FuncData}
abbrev sp_nodes_in (K : PySem.W.Frag) : Sp := SpX (ι := List Wd) K (fun ws => [.py (.list (wtx ws))]) (fun ws _ => ws.length ≤ 1000 ∧ ∀ w ∈ ws, okWd w) fun ws n d m => d = .py (.tuple (nodesW ws)) ∧ m = n
theorem ln_nodes_in (ws : List Wd) : [D.py (.list (wtx ws))].length = 1 := rfl
theorem nm_nodes_in (ws : List Wd) : [D.py (.list (wtx ws))].all D.nm = true := rfl
theorem sc_nodes_in : FnScope ["words"] ["words"] (defScope (top 28)) := ⟨rfl, rfl, rfl, by decide +kernel, rfl, by decide +kernel, by decide +kernel⟩
theorem ok_nodes_in (F : FnP K "nodes_in" "nodes_in" (top 28) f fd) (S_nodes_from : Std P w K mg base 1 "nodes_from" ["words", "place"] (sp_nodes_from K)) : FnOk P w K mg base CX0 2 f fd ["words"] (sp_nodes_in K) := by
  refine F.ok sc_nodes_in (sx_len ln_nodes_in) (fun cdv A outer s H vs Q E hr h => ?_)
  have nd := sc_nodes_in.nd
  refine ⟨_, PSs.nox (pss_one (ps_ret (pe_ix (ixK (K := K) rfl) (pe_std S_nodes_from hr rfl (pa_cons (pv 0) (pa_cons (pe_int) (pa_nil)))) (pe_int) (fun _ _ => rfl)))), ?_⟩
  refine body_x nm_nodes_in ?_ vs H Q E h
  clear h hr
  intro c n x hK hp
  (subst hK)
  try clear S_nodes_from F
  walk_at "WK"
  refine ⟨x, rfl, hp, ?_⟩
  rintro d m ⟨rfl, rfl⟩
  refine ⟨rfl, ?_⟩
  walk_at "WK"
  refine ⟨_, rfl, ?_⟩
  exact ⟨rfl, rfl⟩
abbrev sp_joined_measure (K : PySem.W.Frag) : Sp := SpX (ι := (Int × Int × Int) × (Int × Int × Int)) K (fun x => [.py (t3 x.1), .py (t3 x.2)]) (fun _ _ => True) fun x n d m => d = .py (t3 (joinM x.1 x.2)) ∧ m = n
theorem ln_joined_measure (x : (Int × Int × Int) × (Int × Int × Int)) : [D.py (t3 x.1), .py (t3 x.2)].length = 2 := rfl
theorem nm_joined_measure (x : (Int × Int × Int) × (Int × Int × Int)) : [D.py (t3 x.1), .py (t3 x.2)].all D.nm = true := rfl
theorem sc_joined_measure : FnScope ["measure", "other", "need", "rise", "growth"] ["measure", "other"] (defScope (top 29)) := ⟨rfl, rfl, rfl, by decide +kernel, rfl, by decide +kernel, by decide +kernel⟩
theorem ok_joined_measure (F : FnP K "joined_measure" "joined_measure" (top 29) f fd) (g_max : mg "max" = none) : FnOk P w K mg base CX0 1 f fd ["measure", "other"] (sp_joined_measure K) := by
  refine F.ok sc_joined_measure (sx_len ln_joined_measure) (fun cdv A outer s H vs Q E hr h => ?_)
  have nd := sc_joined_measure.nd
  refine ⟨_, PSs.nox (pss_cons (ps_asg (pv 0) (gtupK (K := K) (n := 3) rfl rfl (pgs_cons (pg_name (i := 2) nd rfl (Or.inl rfl)) (pgs_cons (pg_name (i := 3) nd rfl (Or.inl rfl)) (pgs_cons (pg_name (i := 4) nd rfl (Or.inl rfl)) (pgs_nil))))))
 (pss_one (ps_ret (pe_tup (pa_cons (pe_callB (callMAX2 rfl) rfl g_max bt_max (pa_cons (pv 2) (pa_cons (pe_op op_sub (pe_ix (ixK (K := K) rfl) (pv 1) (pe_int) (fun _ _ => rfl)) (pv 4)) (pa_nil)))) (pa_cons (pe_callB (callMAX2 rfl) rfl g_max bt_max (pa_cons (pv 3) (pa_cons (pe_op (addK (K := K) rfl) (pv 4) (pe_ix (ixK (K := K) rfl) (pv 1) (pe_int) (fun _ _ => rfl))) (pa_nil)))) (pa_cons (pe_op (addK (K := K) rfl) (pv 4) (pe_ix (ixK (K := K) rfl) (pv 1) (pe_int) (fun _ _ => rfl))) (pa_nil)))))))), ?_⟩
  refine body_x nm_joined_measure ?_ vs H Q E h
  clear h hr
  intro c n x hK hp
  (subst hK)
  try clear g_max F
  obtain ⟨⟨a1, a2, a3⟩, ⟨b1, b2, b3⟩⟩ := x
  dsimp only
  refine ws_seq (ws_asg [2, 3, 4] ?_)
  walk_at "WK"
  refine wg_trip rfl ⟨_, _, _, rfl, wg_name ⟨rfl, wg_name ⟨rfl, wg_name ⟨rfl, ?_⟩ (Nat.le_of_ble_eq_true rfl) (by decide)⟩ (Nat.le_of_ble_eq_true rfl) (by decide)⟩ (Nat.le_of_ble_eq_true rfl) (by decide)⟩
  walk_at "WK"
  refine ⟨_, rfl, ?_⟩
  walk_at "WK"
  refine ⟨_, rfl, ?_⟩
  walk_at "WK"
  refine ⟨_, rfl, ?_⟩
  walk_at "WK"
  first | exact ⟨rfl, rfl⟩ | rfl
abbrev sp_measure_in (K : PySem.W.Frag) : Sp := SpX (ι := List Wd) K (fun ws => [.py (.tuple (nodesW ws))]) (fun ws _ => ∀ w ∈ ws, okWd w) fun ws n d m => d = .py (t3 (mWs ws)) ∧ m = n
theorem ln_measure_in (ws : List Wd) : [D.py (.tuple (nodesW ws))].length = 1 := rfl
theorem nm_measure_in (ws : List Wd) : [D.py (.tuple (nodesW ws))].all D.nm = true := rfl
theorem sc_measure_in : FnScope ["nodes", "found", "node", "first", "second"] ["nodes"] (defScope (top 31)) := ⟨rfl, rfl, rfl, by decide +kernel, rfl, by decide +kernel, by decide +kernel⟩
theorem ok_measure_in (F : FnP K "measure_in" "measure_in" (top 31) f fd) (S_joined_measure : Std P w K mg base 1 "joined_measure" ["measure", "other"] (sp_joined_measure K)) (S_measure_of : Std P w K mg base 1 "measure_of" ["word"] (sp_measure_of K)) : FnOk P w K mg base CX0 2 f fd ["nodes"] (sp_measure_in K) := by
  refine F.ok sc_measure_in (sx_len ln_measure_in) (fun cdv A outer s H vs Q E hr h => ?_)
  have nd := sc_measure_in.nd
  refine ⟨_, PSs.nox (pss_cons (ps_set (i := 1) nd rfl (Or.inl rfl) (pe_tup (pa_cons (pe_int) (pa_cons (pe_int) (pa_cons (pe_int) (pa_nil))))))
 (pss_cons (ps_for PassesOwn.never rfl (itupK (K := K) rfl (pv 0)) (pg_name (i := 2) nd rfl (Or.inl rfl)) (pss_one (ps_if (pt_cmpR (eqK (K := K) rfl (room64 hr)) (pe_ix (ixK (K := K) rfl) (pv 2) (pe_int) (fun _ _ => rfl)) (pe_str) (nomark _)) (pss_one (ps_set (i := 1) nd rfl (Or.inl rfl) (pe_std S_joined_measure hr rfl (pa_cons (pv 1) (pa_cons (pe_std S_measure_of hr rfl (pa_cons (pe_ix (ixK (K := K) rfl) (pv 2) (pe_int) (fun _ _ => rfl)) (pa_nil))) (pa_nil)))))) (pss_one (ps_if (pt_cmpR (eqK (K := K) rfl (room64 hr)) (pe_ix (ixK (K := K) rfl) (pv 2) (pe_int) (fun _ _ => rfl)) (pe_str) (nomark _)) (pss_one (ps_never)) (pss_cons (ps_never)
 (pss_one (ps_never))))))))
 (pss_one (ps_ret (pv 1))))), ?_⟩
  refine body_x nm_measure_in ?_ vs H Q E h
  clear h hr
  intro c n x hK hp
  (subst hK)
  try clear S_joined_measure S_measure_of F
  have hp' : ∀ w ∈ x, okWd w := hp
  walk_at "WK"
  refine ws_for [2] (wi_tup rfl ?_)
  walk_at "WK"
  refine ⟨fun i e1 => ∃ s2 s3 s4, e1 = ⟨[.val (.py (.tuple (nodesW x))), .val (.py (t3 (mWs (x.take i)))), s2, s3, s4], n⟩, ⟨.emp, .emp, .emp, rfl⟩, ?_, ?_⟩
  · rintro i d e1 hd ⟨s2, s3, s4, rfl⟩
    obtain ⟨w, hw, hwm, rfl⟩ := nodesW_item hd
    have ts : x.take (i + 1) = x.take i ++ [w] := by rw [List.take_add_one, hw]; rfl
    refine wg_name ⟨rfl, ?_⟩ (Nat.le_of_ble_eq_true rfl) (by decide)
    walk_at "WK"
    refine ⟨_, rfl, ?_⟩
    walk_at "WK"
    refine ⟨fun _ => ?_, fun z => absurd z (by decide)⟩
    walk_at "WK"
    refine ⟨_, rfl, ?_⟩
    walk_at "WK"
    refine ⟨w, rfl, hp' w hwm, ?_⟩
    rintro d m ⟨rfl, rfl⟩
    refine ⟨rfl, ?_⟩
    walk_at "WK"
    refine ⟨(mWs (x.take i), mW w), rfl, trivial, ?_⟩
    rintro d m ⟨rfl, rfl⟩
    refine ⟨rfl, ?_⟩
    walk_at "WK"
    refine ⟨.val (.py (.tuple [.str (Str.ofString "do"), .str w.tx, .int (i : Int)])), s3, s4, ?_⟩
    have gf : t3 (mWs (x.take (i + 1))) = t3 (joinM (mWs (x.take i)) (mW w)) := by rw [ts, mWs_snoc]
    rw [gf]
    rfl
  · rintro e1 ⟨s2, s3, s4, rfl⟩
    walk_at "WK"
    rw [List.length_map, nodesW_len, List.take_length]
    first | exact ⟨rfl, rfl⟩ | rfl
abbrev sp_length_in (K : PySem.W.Frag) : Sp := SpX (ι := List Wd) K (fun ws => [.py (.tuple (nodesW ws))]) (fun _ _ => True) fun ws n d m => d = .py (.int (ws.length : Int)) ∧ m = n
theorem ln_length_in (ws : List Wd) : [D.py (.tuple (nodesW ws))].length = 1 := rfl
theorem nm_length_in (ws : List Wd) : [D.py (.tuple (nodesW ws))].all D.nm = true := rfl
theorem sc_length_in : FnScope ["nodes", "found", "node"] ["nodes"] (defScope (top 33)) := ⟨rfl, rfl, rfl, by decide +kernel, rfl, by decide +kernel, by decide +kernel⟩
theorem ok_length_in (F : FnP K "length_in" "length_in" (top 33) f fd)  : FnOk P w K mg base CX0 1 f fd ["nodes"] (sp_length_in K) := by
  refine F.ok sc_length_in (sx_len ln_length_in) (fun cdv A outer s H vs Q E hr h => ?_)
  have nd := sc_length_in.nd
  refine ⟨_, PSs.nox (pss_cons (ps_set (i := 1) nd rfl (Or.inl rfl) (pe_int))
 (pss_cons (ps_for PassesOwn.never rfl (itupK (K := K) rfl (pv 0)) (pg_name (i := 2) nd rfl (Or.inl rfl)) (pss_one (ps_set (i := 1) nd rfl (Or.inl rfl) (pe_op (addK (K := K) rfl) (pv 1) (pe_ifExp (pt_cmpR (eqK (K := K) rfl (room64 hr)) (pe_ix (ixK (K := K) rfl) (pv 2) (pe_int) (fun _ _ => rfl)) (pe_str) (nomark _)) (pe_int) (pe_never))))))
 (pss_one (ps_ret (pv 1))))), ?_⟩
  refine body_x nm_length_in ?_ vs H Q E h
  clear h hr
  intro c n x hK hp
  (subst hK)
  try clear F
  walk_at "WK"
  refine ws_for [2] (wi_tup rfl ?_)
  walk_at "WK"
  refine ⟨fun i e1 => ∃ s2, e1 = ⟨[.val (.py (.tuple (nodesW x))), .val (.py (.int (i : Int))), s2], n⟩, ⟨.emp, rfl⟩, ?_, ?_⟩
  · rintro i d e1 hd ⟨s2, rfl⟩
    obtain ⟨w, hw, hwm, rfl⟩ := nodesW_item hd
    refine wg_name ⟨rfl, ?_⟩ (Nat.le_of_ble_eq_true rfl) (by decide)
    walk_at "WK"
    refine ⟨_, rfl, ?_⟩
    walk_at "WK"
    refine ⟨fun _ => ?_, fun z => absurd z (by decide)⟩
    walk_at "WK"
    exact ⟨_, rfl⟩
  · rintro e1 ⟨s2, rfl⟩
    walk_at "WK"
    rw [List.length_map, nodesW_len]
    first | exact ⟨rfl, rfl⟩ | rfl
abbrev sp_is_plain_in (K : PySem.W.Frag) : Sp := SpX (ι := List Wd) K (fun ws => [.py (.tuple (nodesW ws))]) (fun ws _ => ws.length ≤ 1000) fun ws n d m => d = .py (.bool true) ∧ m = n
theorem ln_is_plain_in (ws : List Wd) : [D.py (.tuple (nodesW ws))].length = 1 := rfl
theorem nm_is_plain_in (ws : List Wd) : [D.py (.tuple (nodesW ws))].all D.nm = true := rfl
theorem sc_is_plain_in : FnScope ["nodes", "node"] ["nodes"] (defScope (top 32)) := ⟨rfl, rfl, rfl, by decide +kernel, rfl, by decide +kernel, by decide +kernel⟩
theorem ok_is_plain_in (F : FnP K "is_plain_in" "is_plain_in" (top 32) f fd) (g_all : mg "all" = none) : FnOk P w K mg base CX0 1 f fd ["nodes"] (sp_is_plain_in K) := by
  refine F.ok sc_is_plain_in (sx_len ln_is_plain_in) (fun cdv A outer s H vs Q E hr h => ?_)
  have nd := sc_is_plain_in.nd
  refine ⟨_, PSs.nox (pss_one (ps_ret (pe_callB (allK (K := K) rfl rfl) rfl g_all bt_all (pa_cons (pe_lc (own := [("node", 1)]) rfl nd (itupK (K := K) rfl (pv 0)) (blkOk_by (N := ["nodes", "node"]) (sc := (defScope (top 32))) (by decide +kernel)) (fun _ _ _ _ _ => pg_name (i := 1) nd rfl (Or.inl rfl) (.inr rfl)) (fun _ _ _ _ _ => pts_nil) (fun _ _ _ _ _ => pe_or (pe_cmpR (eqK (K := K) rfl (room64 hr)) (pe_ix (ixK (K := K) rfl) (pv 1) (pe_int) (fun _ _ => rfl)) (pe_str) (nomark _)) (pe_one (pe_and (pe_cmpR (eqK (K := K) rfl (room64 hr)) (pe_ix (ixK (K := K) rfl) (pv 1) (pe_int) (fun _ _ => rfl)) (pe_str) (nomark _)) (pe_one (pe_never)))))) (pa_nil))))), ?_⟩
  refine body_x nm_is_plain_in ?_ vs H Q E h
  clear h hr
  intro c n x hK hp
  (subst hK)
  try clear g_all F
  have h1 : x.length ≤ 1000 := hp
  walk_at "WK"
  refine wp_new (wn_lc (fun v hv => ?_) (wi_tup rfl ?_))
  · have : v = 1 := by simpa using hv
    subst this
    exact Nat.le_of_ble_eq_true rfl
  walk_at "WK"
  refine ⟨fun i acc m' => m' = n ∧ acc = (List.replicate i true).map PyData.bool, ⟨rfl, rfl⟩, by rw [List.length_map, nodesW_len]; omega, ?_, ?_⟩
  · rintro i acc m' d hd ⟨rfl, rfl⟩
    obtain ⟨w, hw, hwm, rfl⟩ := nodesW_item hd
    refine wg_name ⟨rfl, ?_⟩ (Nat.le_of_ble_eq_true rfl) (by decide)
    refine wt_yes ⟨fun _ => ?_, fun z => nomatch z⟩
    walk_at "WK"
    refine ⟨_, rfl, ?_⟩
    walk_at "WK"
    refine ⟨fun z => absurd z (by decide), fun _ => ?_⟩
    refine ⟨rfl, ?_⟩
    rw [List.replicate_succ', List.map_append]
    rfl
  rintro acc m' ⟨rfl, rfl⟩
  walk_at "WK"
  refine cw_all rfl (one_mk (ls_py ⟨_, rfl, ?_⟩))
  have e : (List.replicate ((nodesW x).map D.py).length true).all id = true := List.all_eq_true.mpr fun b hb => by rw [List.eq_of_mem_replicate hb]; rfl
  dsimp only
  rw [e]
  exact ⟨rfl, rfl⟩
end
end Wx

/-! ### part T8 -/
set_option Elab.async false
set_option linter.all false
set_option maxRecDepth 100000
set_option maxHeartbeats 1000000
set_option autoImplicit false
namespace Wx
open PySem L2

section
variable {P : Program} {w : World} {K : PySem.W.Frag} {mg : Str → Option Value} {base : Heap} {f C : Addr} {fd : FuncData}
theorem wtx_item {ws : List Wd} {i : Nat} {d : D} (h : ((wtx ws).map D.py)[i]? = some d) : ∃ w, ws[i]? = some w ∧ w ∈ ws ∧ d = .py (.str w.tx) := by
  rw [List.getElem?_map] at h
  cases q : (wtx ws)[i]? with
  | none => rw [q] at h; cases h
  | some p =>
    obtain ⟨w, a, b, rfl⟩ := wtx_at q
    rw [q] at h
    cases h
    exact ⟨w, a, b, rfl⟩
abbrev sp_open_in (K : PySem.W.Frag) : Sp := SpX (ι := List Wd) K (fun ws => [.py (.list (wtx ws))]) (fun ws _ => ∀ w ∈ ws, okWd w) fun ws n d m => d = .py (.int 0) ∧ m = n
theorem ln_open_in (ws : List Wd) : [D.py (.list (wtx ws))].length = 1 := rfl
theorem nm_open_in (ws : List Wd) : [D.py (.list (wtx ws))].all D.nm = true := rfl
theorem sc_open_in : FnScope ["words", "here", "found", "word"] ["words"] (defScope (top 34)) := ⟨rfl, rfl, rfl, by decide +kernel, rfl, by decide +kernel, by decide +kernel⟩
theorem ok_open_in (F : FnP K "open_in" "open_in" (top 34) f fd) (g_max : mg "max" = none) (g_int : mg "int" = none) : FnOk P w K mg base CX0 1 f fd ["words"] (sp_open_in K) := by
  refine F.ok sc_open_in (sx_len ln_open_in) (fun cdv A outer s H vs Q E hr h => ?_)
  have nd := sc_open_in.nd
  refine ⟨_, PSs.nox (pss_cons (ps_set (i := 1) nd rfl (Or.inl rfl) (pe_int))
 (pss_cons (ps_set (i := 2) nd rfl (Or.inl rfl) (pe_int))
 (pss_cons (ps_for PassesOwn.never rfl (ilistK (K := K) rfl (pv 0)) (pg_name (i := 3) nd rfl (Or.inl rfl)) (pss_cons (ps_set (i := 1) nd rfl (Or.inl rfl) (pe_op op_sub (pe_op (addK (K := K) rfl) (pv 1) (pe_callTy callINT1 rfl g_int bt_int (pa_cons (pe_cmpR (inK (K := K) rfl (room65 hr)) (pv 3) (pe_tup (pa_cons (pe_str) (pa_cons (pe_str) (pa_nil)))) (by rfl)) (pa_nil)))) (pe_callTy callINT1 rfl g_int bt_int (pa_cons (pe_cmpR (inK (K := K) rfl (room65 hr)) (pe_ix (ixK (K := K) rfl) (pv 3) (pe_int) (fun _ _ => rfl)) (pe_tup (pa_cons (pe_str) (pa_cons (pe_str) (pa_nil)))) (by rfl)) (pa_nil)))))
 (pss_one (ps_set (i := 2) nd rfl (Or.inl rfl) (pe_callB (callMAX2 rfl) rfl g_max bt_max (pa_cons (pv 2) (pa_cons (pv 1) (pa_nil))))))))
 (pss_one (ps_ret (pv 2)))))), ?_⟩
  refine body_x nm_open_in ?_ vs H Q E h
  clear h hr
  intro c n x hK hp
  (subst hK)
  try clear g_max g_int F
  have h2 : ∀ w ∈ x, okWd w := hp
  walk_at "WK"
  refine ws_for [3] (wi_list rfl ?_)
  walk_at "WK"
  refine ⟨fun i e1 => ∃ s3, e1 = ⟨[.val (.py (.list (wtx x))), .val (.py (.int 0)), .val (.py (.int 0)), s3], n⟩, ⟨.emp, rfl⟩, ?_, ?_⟩
  · rintro i d e1 hd ⟨s3, rfl⟩
    obtain ⟨w, hw, hwm, rfl⟩ := wtx_item hd
    obtain ⟨ch, r, ew, c1, c2⟩ := wd_cons (h2 w hwm)
    have hw33 := wd_len (h2 w hwm)
    have l3 : w.tx.length ≤ sizeLine := by unfold Wd.tx; rw [sg_len]; exact Nat.le_trans hw33.2 (by rw [sizeLine_eq]; decide)
    refine wg_name ⟨rfl, ?_⟩ (Nat.le_of_ble_eq_true rfl) (by decide)
    walk_at "WK"
    have em : Mem (.str w.tx) [.str (Str.ofString "("), .str (Str.ofString "{")] = false := by
      have e1 : ¬ Str.ofString "(" = w.tx := by rw [txt_o]; exact wd_nein (by decide)
      have e2 : ¬ Str.ofString "{" = w.tx := by rw [txt_b]; exact wd_nein (by decide)
      simp [Mem, eqv_strD, e1, e2]
    refine ⟨shp_wd w, by decide +kernel, ?_⟩
    rw [em]
    walk_at "WK"
    refine ⟨l3, ch, at0 ew, ?_⟩
    walk_at "WK"
    have em2 : Mem (.str ⟨#[ch]⟩) [.str (Str.ofString ")"), .str (Str.ofString "}")] = false := by
      have e1 : ¬ Str.ofString ")" = (⟨#[ch]⟩ : Str) := by rw [txt_e]; exact fun z => by have := (List.cons.inj (sg_inj (a := [41]) (b := [ch]) z)).1; omega
      have e2 : ¬ Str.ofString "}" = (⟨#[ch]⟩ : Str) := by rw [txt_f]; exact fun z => by have := (List.cons.inj (sg_inj (a := [125]) (b := [ch]) z)).1; omega
      simp [Mem, eqv_strD, e1, e2]
    refine ⟨shp_sg (l := [ch]) (by simp; omega), by decide +kernel, ?_⟩
    rw [em2]
    walk_at "WK"
    exact ⟨_, rfl⟩
  · rintro e1 ⟨s3, rfl⟩
    walk_at "WK"
    first | exact ⟨rfl, rfl⟩ | rfl
end
end Wx

/-! ### part T9 -/
set_option Elab.async false
set_option linter.all false
set_option maxRecDepth 100000
set_option maxHeartbeats 1000000
set_option autoImplicit false
/-! An __init__ that stores its attributes one by one. -/
namespace Wx
open PySem L2
structure Wzf (c : Cy) (t : TS) (e : En) (x C dx : Addr) (n : Nat) (f0 fs : List (Str × PyData)) : Prop where
  run : ∀ (σ : St) (A : Addr → Prop) (H : Hp) (w0 : List (Str × V)), Ok c A H σ e → (∀ a, ¬ ownA σ e.sl a) → H x = some (.ins C dx w0) → FsR c.K c.S0 H w0 f0 → ∀ Dn : Ends, (∀ (σ' : St) (H' : Hp) (ws : List (Str × V)), H' x = some (.ins C dx ws) → FsR c.K c.S0 H' ws fs → (∀ a o, c.k ≠ some a → a ≠ x → H a = some o → H' a = some o) → Good c n H' → Dn.nx σ' H') → t Dn σ H
section
variable {c : Cy} {sl : List Slo} {nn n : Nat} {x C dx : Addr} {f0 fs : List (Str × PyData)} {t u : TS} {te : TE} {e : En}
theorem wzf_of (h : Wzf c t e x C dx n [] fs) : Wz c t e x C dx n fs := ⟨fun σ A H o no hH Dn fin => h.run σ A H [] o no hH True.intro Dn fin⟩
theorem wzf_seq (hk : c.k ≠ some x) (h : Ws c t ⟨sl, nn⟩ ⟨fun e1 => noOwn e1.sl = true ∧ Wzf c u e1 x C dx n f0 fs, fun _ _ => False, fun _ => False, fun _ => False⟩) : Wzf c (tSeq t u) ⟨sl, nn⟩ x C dx n f0 fs :=
  ⟨fun σ A H w0 o no hH hf Dn fin => h.run σ A H o { Dn with nx := u Dn } (fun σ1 A1 H1 e1 q kp w o1 => by
    have kS : Kept c.S0 H H1 := kp.mono fun a z => z.elim (c.hk a) fun y => (no a y).elim
    exact q.2.run σ1 A1 H1 w0 o1 (no_own q.1) (kp x _ (fun z => z.elim hk (no x)) hH) (hf.keep kS) Dn fun σ2 H2 ws r1 r2 r3 r4 => fin σ2 H2 ws r1 r2 (fun a u n1 n2 z => r3 a u n1 n2 (kp a u (fun y => y.elim n1 (no a)) z)) r4)
    (fun _ _ _ _ z _ _ _ => z.elim) (fun _ _ _ _ z _ _ _ => z.elim) (fun _ _ _ _ z _ _ _ => z.elim)⟩
theorem Ok.updS {A : Addr → Prop} {H : Hp} {σ : St} {w w' : List (Str × V)} (o : Ok c A H σ e) (no : ∀ a, ¬ ownA σ e.sl a) (hx : c.S0 x) (hk : c.k ≠ some x) (hH : H x = some (.ins C dx w)) : Ok c A (upd H x (.ins C dx w')) σ e := by
  have xA : A x := o.sub x (.inl hx)
  have kA : Kept A H (upd H x (.ins C dx w')) := fun b u nb z => by rw [upd_ne fun y => nb (by rw [y]; exact xA)]; exact z
  have ne : ∀ {b : Addr}, ¬ A b → b ≠ x := fun nb y => nb (by rw [y]; exact xA)
  refine ⟨o.len, ⟨fun b z => ?_, fun b z => ?_⟩, o.sub, fun b z => ?_, fun i d z => ?_, fun i w z => ?_, o.sep⟩
  · by_cases q : b = x
    · rw [q, upd_same]; exact fun y => nomatch y
    · rw [upd_ne q]; exact o.good.al b z
  · rw [upd_ne fun q => hk (by rw [← q]; exact z)]; exact o.good.kl b z
  · by_cases q : b = x
    · rw [q, upd_same]; exact fun y => nomatch y
    · rw [upd_ne q]; exact o.al b z
  · obtain ⟨nm, v, h1, h2⟩ := o.val i d z
    refine ⟨nm, v, h1, ?_⟩
    cases d with
    | py p => exact Da.keep kA h2
    | mine w => cases nm
    | dct ds => obtain ⟨a, kvs, q, m, r, t⟩ := h2; exact ⟨a, kvs, q, m, by rw [upd_ne (ne m)]; exact r, t.keep kA⟩
    | dcl ds => obtain ⟨a, kvs, od, q, m, r, t⟩ := h2; exact ⟨a, kvs, od, q, m, by rw [upd_ne (ne m)]; exact r, t.keep kA⟩
    | brw ds =>
      obtain ⟨a, xs, q, m, s, r, t⟩ := h2
      exact ⟨a, xs, q, m, s, by rw [upd_ne fun y => by rw [y, hH] at r; cases r]; exact r, t.keep kA⟩
    | ins C fs => obtain ⟨a, dx, vs, q, m, r, t⟩ := h2; exact ⟨a, dx, vs, q, m, by rw [upd_ne (ne m)]; exact r, t.keep kA⟩
    | atom w => exact h2
    | kln => exact h2
    | lsx => obtain ⟨a, xs, q, m, r⟩ := h2; exact ⟨a, xs, q, m, by rw [upd_ne (ne m)]; exact r⟩
  · obtain ⟨a, h1, _, _⟩ := o.own i w z
    exact absurd ⟨i, w, z, h1⟩ (no a)
theorem FsR.names {K : PySem.W.Frag} {S : Addr → Prop} {H : Hp} : ∀ {ws : List (Str × V)} {fs : List (Str × PyData)}, FsR K S H ws fs → ws.map Prod.fst = fs.map Prod.fst
  | [], [], _ => rfl
  | (a, v) :: r, (b, d) :: s, ⟨e, _, t⟩ => by rw [List.map_cons, List.map_cons, FsR.names t]; dsimp only; rw [e]
  | [], _ :: _, h => h.elim
  | _ :: _, [], h => h.elim
theorem FsR.snoc {K : PySem.W.Frag} {S : Addr → Prop} {H : Hp} {f : Str} {v : V} {p : PyData} (y : Da K S H v p) : ∀ {ws : List (Str × V)} {fs : List (Str × PyData)}, FsR K S H ws fs → FsR K S H (ws ++ [(f, v)]) (fs ++ [(f, p)])
  | [], [], _ => ⟨rfl, y, True.intro⟩
  | (a, u) :: r, (b, d) :: s, ⟨e, h, t⟩ => ⟨e, h, FsR.snoc y t⟩
  | [], _ :: _, h => h.elim
  | _ :: _, [], h => h.elim
theorem putF_snoc {f : Str} {v : V} : ∀ {ws : List (Str × V)}, f ∉ ws.map Prod.fst → putF f v ws = ws ++ [(f, v)]
  | [], _ => rfl
  | (a, u) :: r, h => by
    have ne : ¬ a = f := fun q => h (by rw [List.map_cons, q]; exact List.mem_cons_self)
    show putF f v ((a, u) :: r) = (a, u) :: (r ++ [(f, v)])
    rw [putF, if_neg ne, putF_snoc fun q => h (by rw [List.map_cons]; exact List.mem_cons_of_mem _ q)]
theorem FsR.len {K : PySem.W.Frag} {S : Addr → Prop} {H : Hp} {ws : List (Str × V)} {fs : List (Str × PyData)} (h : FsR K S H ws fs) : ws.length = fs.length := by
  have := congrArg List.length h.names
  rwa [List.length_map, List.length_map] at this
theorem wzf_att {K : PySem.W.Frag} {f : Str} (hK : K = c.K) (hk : c.k ≠ some x) (hx : c.S0 x) (h0 : sl[0]? = some (.val (.atom (.ref x)))) (cl : Cls c.K C) (n1 : NoAttr c.K C f) (hf : f ∉ f0.map Prod.fst) (hl : f0.length < 900) (hno : noOwn sl = true)
    (h : Wp c te ⟨sl, nn⟩ fun d m => ∃ p, d = .py p ∧ Wzf c u ⟨sl, m⟩ x C dx n (f0 ++ [(f, p)]) fs) : Wzf c (tSeq (tAsg te (gAtt K (tVar 0) f)) u) ⟨sl, nn⟩ x C dx n f0 fs := ⟨fun σ A H w0 o no hH hr Dn fin => by
  subst hK
  obtain ⟨_, v0, s0, e0⟩ := o.val 0 _ h0
  have e0' : v0 = .ref x := e0
  subst e0'
  refine h.run σ A H o _ fun v H1 d m pr e1 g1 xd => ?_
  obtain ⟨p, rfl, pr⟩ := pr
  have hx1 : H1 x = some (.ins C dx w0) := e1 x _ hk hH
  have xA : A x := o.sub x (.inl hx)
  have nm : f ∉ w0.map Prod.fst := by rw [hr.names]; exact hf
  refine ⟨.ref x, s0, x, C, dx, w0, rfl, hx1, cl, n1, by rw [hr.len]; omega, ?_⟩
  rw [putF_snoc nm]
  have kS1 : Kept c.S0 H H1 := fun a u na z => e1 a u (fun y => na (c.hk a y)) z
  have kS2 : Kept c.S0 H1 (upd H1 x (.ins C dx (w0 ++ [(f, v)]))) := fun b u nb z => by rw [upd_ne fun y => nb (by rw [y]; exact hx)]; exact z
  have y : Da c.K c.S0 H1 v p := Da.less (fun a z => o.sub a (.inl z)) xd
  have o2 := (o.keep e1 g1).updS (w' := w0 ++ [(f, v)]) no hx hk hx1
  exact pr.run σ A _ (w0 ++ [(f, v)]) o2 no upd_same (FsR.keep kS2 (FsR.snoc y (hr.keep kS1))) Dn fun σ2 H2 ws r1 r2 r3 r4 => fin σ2 H2 ws r1 r2 (fun a u q1 q2 z => r3 a u q1 q2 (by rw [upd_ne q2]; exact e1 a u q1 z)) r4⟩
theorem wzf_last {K : PySem.W.Frag} {f : Str} (hK : K = c.K) (hk : c.k ≠ some x) (hx : c.S0 x) (h0 : sl[0]? = some (.val (.atom (.ref x)))) (cl : Cls c.K C) (n1 : NoAttr c.K C f) (hf : f ∉ f0.map Prod.fst) (hl : f0.length < 900)
    (h : Wp c te ⟨sl, nn⟩ fun d m => ∃ p, d = .py p ∧ fs = f0 ++ [(f, p)] ∧ m = n) : Wzf c (tAsg te (gAtt K (tVar 0) f)) ⟨sl, nn⟩ x C dx n f0 fs := ⟨fun σ A H w0 o no hH hr Dn fin => by
  subst hK
  obtain ⟨_, v0, s0, e0⟩ := o.val 0 _ h0
  have e0' : v0 = .ref x := e0
  subst e0'
  refine h.run σ A H o _ fun v H1 d m pr e1 g1 xd => ?_
  obtain ⟨p, rfl, rfl, rfl⟩ := pr
  have hx1 : H1 x = some (.ins C dx w0) := e1 x _ hk hH
  have nm : f ∉ w0.map Prod.fst := by rw [hr.names]; exact hf
  refine ⟨.ref x, s0, x, C, dx, w0, rfl, hx1, cl, n1, by rw [hr.len]; omega, ?_⟩
  rw [putF_snoc nm]
  have kS1 : Kept c.S0 H H1 := fun a u na z => e1 a u (fun y => na (c.hk a y)) z
  have kS2 : Kept c.S0 H1 (upd H1 x (.ins C dx (w0 ++ [(f, v)]))) := fun b u nb z => by rw [upd_ne fun y => nb (by rw [y]; exact hx)]; exact z
  have y : Da c.K c.S0 H1 v p := Da.less (fun a z => o.sub a (.inl z)) xd
  have o2 := (o.keep e1 g1).updS (w' := w0 ++ [(f, v)]) no hx hk hx1
  exact fin σ _ _ upd_same (FsR.keep kS2 (FsR.snoc y (hr.keep kS1))) (fun a u q1 q2 z => by rw [upd_ne q2]; exact e1 a u q1 z) o2.good⟩
end
end Wx

/-! ### part T9b -/
set_option Elab.async false
set_option linter.all false
set_option maxRecDepth 100000
set_option maxHeartbeats 1000000
set_option autoImplicit false
namespace Wx
open PySem L2
section
variable {c : Cy} {sl : List Slo} {nn n : Nat} {x C dx : Addr} {f0 fs : List (Str × PyData)} {t u : TS} {te ta tb : TE} {e : En}
/-- self.f = (a if self.g else b), self.g stored before -/
theorem wzf_attT {K : PySem.W.Frag} {f g : Str} {b : Bool} (hK : K = c.K) (hk : c.k ≠ some x) (hx : c.S0 x) (h0 : sl[0]? = some (.val (.atom (.ref x)))) (cl : Cls c.K C) (n1 : NoAttr c.K C f) (n2 : NoAttr c.K C g) (hf : f ∉ f0.map Prod.fst) (hl : f0.length < 900) (hno : noOwn sl = true) (hg : f0.lookup g = some (.bool b))
    (h : Wp c (if b then ta else tb) ⟨sl, nn⟩ fun d m => ∃ p, d = .py p ∧ Wzf c u ⟨sl, m⟩ x C dx n (f0 ++ [(f, p)]) fs) : Wzf c (tSeq (tAsg (tIf (fun σ H Q => tFld K (tVar 0) g σ H fun x H' => ∃ k, TruV K x H' k ∧ Q k H') ta tb) (gAtt K (tVar 0) f)) u) ⟨sl, nn⟩ x C dx n f0 fs := ⟨fun σ A H w0 o no hH hr Dn fin => by
  have z := (wzf_att (te := if b then ta else tb) hK hk hx h0 cl n1 hf hl hno h).run σ A H w0 o no hH hr Dn fin
  subst hK
  obtain ⟨_, v0, s0, e0⟩ := o.val 0 _ h0
  have e0' : v0 = .ref x := e0
  subst e0'
  obtain ⟨v, lv, y⟩ := hr.look hg
  cases Da.bl_eq y
  refine ⟨.ref x, s0, x, C, dx, w0, .bl b, rfl, hH, cl, n2, lv, b, rfl, ?_⟩
  cases b with
  | true => exact iteT z
  | false => exact iteF z⟩
end
end Wx

/-! ### part T10 -/
set_option Elab.async false
set_option linter.all false
set_option maxRecDepth 100000
set_option maxHeartbeats 1000000
set_option autoImplicit false
namespace Wx
open PySem L2

def progF (ws : List Wd) : List (Str × PyData) := [("own_text", .str (joinW ws)), ("own_words", .tuple (wtx ws)), ("own_nodes", .tuple (nodesW ws)), ("own_need", .int (mWs ws).1), ("own_rise", .int (mWs ws).2.1), ("own_growth", .int (mWs ws).2.2), ("own_plain", .bool true), ("own_steps", .int (ws.length : Int)), ("own_open", .int 0)]
def okWs (ws : List Wd) : Prop := ws.length ≤ 1000 ∧ (∀ w ∈ ws, okWd w) ∧ (mWs ws).1 + (mWs ws).2.1 ≤ 100
structure PrA (K : PySem.W.Frag) (C : Addr) : Prop where
  cl : Cls K C
  a1 : NoAttr K C "own_text"
  a2 : NoAttr K C "own_words"
  a3 : NoAttr K C "own_nodes"
  a4 : NoAttr K C "own_need"
  a5 : NoAttr K C "own_rise"
  a6 : NoAttr K C "own_growth"
  a7 : NoAttr K C "own_plain"
  a8 : NoAttr K C "own_steps"
  a9 : NoAttr K C "own_open"
section
variable {P : Program} {w : World} {K : PySem.W.Frag} {mg : Str → Option Value} {base : Heap} {f C : Addr} {fd : FuncData}
abbrev si_Program___init__ (K : PySem.W.Frag) (C : Addr) : Sp := SpI (ι := List Wd) K C (fun ws => [.py (.str (joinW ws))]) (fun ws _ => okWs ws) fun ws => progF ws
theorem ln_Program___init__ (ws : List Wd) : [D.py (.str (joinW ws))].length = 1 := rfl
theorem nm_Program___init__ (ws : List Wd) : [D.py (.str (joinW ws))].all D.nm = true := rfl
theorem sc_Program___init__ : FnScope ["self", "text", "words", "wrong", "nodes", "need", "rise", "growth"] ["self", "text"] (defScope (meth 36 0)) := ⟨rfl, rfl, rfl, by decide +kernel, rfl, by decide +kernel, by decide +kernel⟩
theorem ok_Program___init__ (F : FnP K "__init__" "Program.__init__" (meth 36 0) f fd) (g_isinstance : mg "isinstance" = none) (g_str : mg "str" = none) (S_words_of : Std P w K mg base 1 "words_of" ["text"] (sp_words_of K)) (S_first_wrong : Std P w K mg base 4 "first_wrong" ["words", "growths"] (sp_first_wrong K)) (S_nodes_in : Std P w K mg base 2 "nodes_in" ["words"] (sp_nodes_in K)) (S_measure_in : Std P w K mg base 2 "measure_in" ["nodes"] (sp_measure_in K)) (i_MOST_HIGH : GInt mg "MOST_HIGH" 100) (g_tuple : mg "tuple" = none) (S_is_plain_in : Std P w K mg base 1 "is_plain_in" ["nodes"] (sp_is_plain_in K)) (S_length_in : Std P w K mg base 1 "length_in" ["nodes"] (sp_length_in K)) (S_open_in : Std P w K mg base 1 "open_in" ["words"] (sp_open_in K)) (pa : PrA K C) : FnOk P w K mg base CX0 5 f fd ["self", "text"] (si_Program___init__ K C) := by
  refine F.ok sc_Program___init__ (si_len ln_Program___init__) (fun cdv A outer s H vs Q E hr h => ?_)
  have nd := sc_Program___init__.nd
  refine ⟨_, PSs.nox (pss_cons (ps_if (pt_not (truK (K := K) rfl (pe_callB (isiK (K := K) rfl) rfl g_isinstance bt_isinstance (pa_cons (pv 1) (pa_cons (pe_bltn (v := .ty "str") rfl g_str bt_str rfl) pa_nil))) (by intro _; rfl))) (pss_one (ps_never)) (pss_nil))
 (pss_cons (ps_set (i := 2) nd rfl (Or.inl rfl) (pe_std S_words_of (hr.mono (by decide)) rfl (pa_cons (pv 1) (pa_nil))))
 (pss_cons (ps_set (i := 3) nd rfl (Or.inl rfl) (pe_std S_first_wrong hr rfl (pa_cons (pv 2) (pa_cons (pe_dnewK) (pa_nil)))))
 (pss_cons (ps_if (pt_cmpR opNTN (pv 3) (pe_non) (nomark _)) (pss_one (ps_never)) (pss_nil))
 (pss_cons (ps_set (i := 4) nd rfl (Or.inl rfl) (pe_std S_nodes_in (hr.mono (by decide)) rfl (pa_cons (pv 2) (pa_nil))))
 (pss_cons (ps_asg (pe_std S_measure_in (hr.mono (by decide)) rfl (pa_cons (pv 4) (pa_nil))) (gtupK (K := K) (n := 3) rfl rfl (pgs_cons (pg_name (i := 5) nd rfl (Or.inl rfl)) (pgs_cons (pg_name (i := 6) nd rfl (Or.inl rfl)) (pgs_cons (pg_name (i := 7) nd rfl (Or.inl rfl)) (pgs_nil))))))
 (pss_cons (ps_if (pt_cmpR op_gt (pe_op (addK (K := K) rfl) (pv 5) (pv 6)) (pe_gint i_MOST_HIGH rfl) (nomark _)) (pss_one (ps_never)) (pss_nil))
 (pss_cons (ps_asg (pv 1) (pg_att (pv 0)))
 (pss_cons (ps_asg (pe_callTy (tupK (K := K) rfl) rfl g_tuple bt_tuple (pa_cons (pv 2) (pa_nil))) (pg_att (pv 0)))
 (pss_cons (ps_asg (pv 4) (pg_att (pv 0)))
 (pss_cons (ps_asg (pv 5) (pg_att (pv 0)))
 (pss_cons (ps_asg (pv 6) (pg_att (pv 0)))
 (pss_cons (ps_asg (pv 7) (pg_att (pv 0)))
 (pss_cons (ps_asg (pe_std S_is_plain_in (hr.mono (by decide)) rfl (pa_cons (pv 4) (pa_nil))) (pg_att (pv 0)))
 (pss_cons (ps_asg (pe_ifExp (truK (K := K) rfl (pe_fld (pv 0) rfl) (by intro _; rfl)) (pe_std S_length_in (hr.mono (by decide)) rfl (pa_cons (pv 4) (pa_nil))) (pe_non)) (pg_att (pv 0)))
 (pss_one (ps_asg (pe_std S_open_in (hr.mono (by decide)) rfl (pa_cons (pv 2) (pa_nil))) (pg_att (pv 0))))))))))))))))))), ?_⟩
  refine body_i nm_Program___init__ ?_ vs H Q E h
  clear h hr
  intro c n z x dx hK hk hx hp
  (subst hK)
  try clear g_isinstance g_str S_words_of S_first_wrong S_nodes_in S_measure_in i_MOST_HIGH g_tuple S_is_plain_in S_length_in S_open_in F
  obtain ⟨h1, h2, h3⟩ : okWs z := hp
  have l33 := joinW_len h2
  refine wzf_of (wzf_seq hk ?_)
  walk_at "WK"
  refine ⟨fun z => (nomatch z), fun _ => ?_⟩
  walk_at "WK"
  refine wzf_seq hk ?_
  walk_at "WK"
  refine ⟨z, rfl, ⟨h1, h2⟩, ?_⟩
  rintro d m ⟨rfl, rfl⟩
  refine ⟨rfl, ?_⟩
  walk_at "WK"
  refine wzf_seq hk ?_
  walk_at "WK"
  refine wp_new ?_
  walk_at "WK"
  refine ⟨z, rfl, ⟨h1, h2⟩, ?_⟩
  rintro d m ⟨rfl, rfl⟩
  refine ⟨rfl, ?_⟩
  walk_at "WK"
  refine wzf_seq hk ?_
  walk_at "WK"
  refine ⟨fun z => (nomatch z), fun _ => ?_⟩
  walk_at "WK"
  refine wzf_seq hk ?_
  walk_at "WK"
  refine ⟨z, rfl, ⟨h1, h2⟩, ?_⟩
  rintro d m ⟨rfl, rfl⟩
  refine ⟨rfl, ?_⟩
  walk_at "WK"
  refine wzf_seq hk (ws_asg [5, 6, 7] ?_)
  walk_at "WK"
  refine ⟨z, rfl, h2, ?_⟩
  rintro d m ⟨rfl, rfl⟩
  refine ⟨rfl, ?_⟩
  refine wg_trip rfl ⟨_, _, _, rfl, wg_name ⟨rfl, wg_name ⟨rfl, wg_name ⟨rfl, rfl, ?_⟩ (Nat.le_of_ble_eq_true rfl) (by decide)⟩ (Nat.le_of_ble_eq_true rfl) (by decide)⟩ (Nat.le_of_ble_eq_true rfl) (by decide)⟩
  refine wzf_seq hk ?_
  walk_at "WK"
  refine ⟨fun q => absurd (of_decide_eq_true q) (by omega), fun _ => ?_⟩
  walk_at "WK"
  refine wzf_att rfl hk hx rfl pa.cl pa.a1 (by simp) (Nat.le_of_ble_eq_true rfl) rfl ?_
  walk_at "WK"
  refine ⟨_, rfl, ?_⟩
  refine wzf_att rfl hk hx rfl pa.cl pa.a2 (by simp <;> decide +kernel) (Nat.le_of_ble_eq_true rfl) rfl ?_
  walk_at "WK"
  refine ⟨_, rfl, ?_⟩
  refine wzf_att rfl hk hx rfl pa.cl pa.a3 (by simp <;> decide +kernel) (Nat.le_of_ble_eq_true rfl) rfl ?_
  walk_at "WK"
  refine ⟨_, rfl, ?_⟩
  refine wzf_att rfl hk hx rfl pa.cl pa.a4 (by simp <;> decide +kernel) (Nat.le_of_ble_eq_true rfl) rfl ?_
  walk_at "WK"
  refine ⟨_, rfl, ?_⟩
  refine wzf_att rfl hk hx rfl pa.cl pa.a5 (by simp <;> decide +kernel) (Nat.le_of_ble_eq_true rfl) rfl ?_
  walk_at "WK"
  refine ⟨_, rfl, ?_⟩
  refine wzf_att rfl hk hx rfl pa.cl pa.a6 (by simp <;> decide +kernel) (Nat.le_of_ble_eq_true rfl) rfl ?_
  walk_at "WK"
  refine ⟨_, rfl, ?_⟩
  refine wzf_att rfl hk hx rfl pa.cl pa.a7 (by simp <;> decide +kernel) (Nat.le_of_ble_eq_true rfl) rfl ?_
  walk_at "WK"
  refine ⟨z, rfl, h1, ?_⟩
  rintro d m ⟨rfl, rfl⟩
  refine ⟨rfl, _, rfl, ?_⟩
  refine wzf_attT (b := true) rfl hk hx rfl pa.cl pa.a8 pa.a7 (by simp <;> decide +kernel) (Nat.le_of_ble_eq_true rfl) rfl rfl ?_
  rw [if_pos rfl]
  walk_at "WK"
  refine ⟨z, rfl, trivial, ?_⟩
  rintro d m ⟨rfl, rfl⟩
  refine ⟨rfl, _, rfl, ?_⟩
  refine wzf_last rfl hk hx rfl pa.cl pa.a9 (by simp <;> decide +kernel) (Nat.le_of_ble_eq_true rfl) ?_
  walk_at "WK"
  refine ⟨z, rfl, h2, ?_⟩
  rintro d m ⟨rfl, rfl⟩
  exact ⟨rfl, _, rfl, rfl, rfl⟩
end
end Wx

/-! ### part T11 -/
set_option Elab.async false
set_option linter.all false
set_option maxRecDepth 100000
set_option maxHeartbeats 1000000
set_option autoImplicit false
namespace Wx
open PySem L2

abbrev progD (C : Addr) (ws : List Wd) : D := .ins C (progF ws)
section
variable {P : Program} {w : World} {K : PySem.W.Frag} {mg : Str → Option Value} {base : Heap} {f C : Addr} {fd : FuncData}
abbrev sp_Program_text (K : PySem.W.Frag) (C : Addr) : Sp := SpX (ι := List Wd) K (fun ws => [progD C ws]) (fun _ _ => True) fun ws n d m => d = .py (.str (joinW ws)) ∧ m = n
theorem ln_Program_text (ws : List Wd) : [progD C ws].length = 1 := rfl
theorem nm_Program_text (ws : List Wd) : [progD C ws].all D.nm = true := rfl
theorem sc_Program_text : FnScope ["self"] ["self"] (defScope (meth 36 1)) := ⟨rfl, rfl, rfl, by decide +kernel, rfl, by decide +kernel, by decide +kernel⟩
theorem ok_Program_text (F : FnP K "text" "Program.text" (meth 36 1) f fd) (kc : KitC K C) (pa : PrA K C) (gP : mg "Program" = some (.ref C)) : FnOk P w K mg base CX0 1 f fd ["self"] (sp_Program_text K C) := by
  refine F.ok sc_Program_text (sx_len ln_Program_text) (fun cdv A outer s H vs Q E hr h => ?_)
  have nd := sc_Program_text.nd
  refine ⟨_, PSs.nox (pss_one (ps_ret (pe_fld (pv 0) rfl))), ?_⟩
  refine body_x nm_Program_text ?_ vs H Q E h
  clear h hr
  intro c n x hK hp
  (subst hK)
  try clear F
  walk_at "WK"
  exact ⟨C, _, _, rfl, kc.cl, pa.a1, rfl, rfl, rfl⟩
abbrev sp_Program_need (K : PySem.W.Frag) (C : Addr) : Sp := SpX (ι := List Wd) K (fun ws => [progD C ws]) (fun _ _ => True) fun ws n d m => d = .py (.int (mWs ws).1) ∧ m = n
theorem ln_Program_need (ws : List Wd) : [progD C ws].length = 1 := rfl
theorem nm_Program_need (ws : List Wd) : [progD C ws].all D.nm = true := rfl
theorem sc_Program_need : FnScope ["self"] ["self"] (defScope (meth 36 2)) := ⟨rfl, rfl, rfl, by decide +kernel, rfl, by decide +kernel, by decide +kernel⟩
theorem ok_Program_need (F : FnP K "need" "Program.need" (meth 36 2) f fd) (kc : KitC K C) (pa : PrA K C) (gP : mg "Program" = some (.ref C)) : FnOk P w K mg base CX0 1 f fd ["self"] (sp_Program_need K C) := by
  refine F.ok sc_Program_need (sx_len ln_Program_need) (fun cdv A outer s H vs Q E hr h => ?_)
  have nd := sc_Program_need.nd
  refine ⟨_, PSs.nox (pss_one (ps_ret (pe_fld (pv 0) rfl))), ?_⟩
  refine body_x nm_Program_need ?_ vs H Q E h
  clear h hr
  intro c n x hK hp
  (subst hK)
  try clear F
  walk_at "WK"
  exact ⟨C, _, _, rfl, kc.cl, pa.a4, rfl, rfl, rfl⟩
abbrev sp_Program_is_plain (K : PySem.W.Frag) (C : Addr) : Sp := SpX (ι := List Wd) K (fun ws => [progD C ws]) (fun _ _ => True) fun ws n d m => d = .py (.bool true) ∧ m = n
theorem ln_Program_is_plain (ws : List Wd) : [progD C ws].length = 1 := rfl
theorem nm_Program_is_plain (ws : List Wd) : [progD C ws].all D.nm = true := rfl
theorem sc_Program_is_plain : FnScope ["self"] ["self"] (defScope (meth 36 5)) := ⟨rfl, rfl, rfl, by decide +kernel, rfl, by decide +kernel, by decide +kernel⟩
theorem ok_Program_is_plain (F : FnP K "is_plain" "Program.is_plain" (meth 36 5) f fd) (kc : KitC K C) (pa : PrA K C) (gP : mg "Program" = some (.ref C)) : FnOk P w K mg base CX0 1 f fd ["self"] (sp_Program_is_plain K C) := by
  refine F.ok sc_Program_is_plain (sx_len ln_Program_is_plain) (fun cdv A outer s H vs Q E hr h => ?_)
  have nd := sc_Program_is_plain.nd
  refine ⟨_, PSs.nox (pss_one (ps_ret (pe_fld (pv 0) rfl))), ?_⟩
  refine body_x nm_Program_is_plain ?_ vs H Q E h
  clear h hr
  intro c n x hK hp
  (subst hK)
  try clear F
  walk_at "WK"
  exact ⟨C, _, _, rfl, kc.cl, pa.a7, rfl, rfl, rfl⟩
abbrev sp_Program_steps (K : PySem.W.Frag) (C : Addr) : Sp := SpX (ι := List Wd) K (fun ws => [progD C ws]) (fun _ _ => True) fun ws n d m => d = .py (.int (ws.length : Int)) ∧ m = n
theorem ln_Program_steps (ws : List Wd) : [progD C ws].length = 1 := rfl
theorem nm_Program_steps (ws : List Wd) : [progD C ws].all D.nm = true := rfl
theorem sc_Program_steps : FnScope ["self"] ["self"] (defScope (meth 36 6)) := ⟨rfl, rfl, rfl, by decide +kernel, rfl, by decide +kernel, by decide +kernel⟩
theorem ok_Program_steps (F : FnP K "steps" "Program.steps" (meth 36 6) f fd) (kc : KitC K C) (pa : PrA K C) (gP : mg "Program" = some (.ref C)) : FnOk P w K mg base CX0 1 f fd ["self"] (sp_Program_steps K C) := by
  refine F.ok sc_Program_steps (sx_len ln_Program_steps) (fun cdv A outer s H vs Q E hr h => ?_)
  have nd := sc_Program_steps.nd
  refine ⟨_, PSs.nox (pss_one (ps_ret (pe_fld (pv 0) rfl))), ?_⟩
  refine body_x nm_Program_steps ?_ vs H Q E h
  clear h hr
  intro c n x hK hp
  (subst hK)
  try clear F
  walk_at "WK"
  exact ⟨C, _, _, rfl, kc.cl, pa.a8, rfl, rfl, rfl⟩
abbrev sp_Program___len__ (K : PySem.W.Frag) (C : Addr) : Sp := SpX (ι := List Wd) K (fun ws => [progD C ws]) (fun _ _ => True) fun ws n d m => d = .py (.int (ws.length : Int)) ∧ m = n
theorem ln_Program___len__ (ws : List Wd) : [progD C ws].length = 1 := rfl
theorem nm_Program___len__ (ws : List Wd) : [progD C ws].all D.nm = true := rfl
theorem sc_Program___len__ : FnScope ["self"] ["self"] (defScope (meth 36 7)) := ⟨rfl, rfl, rfl, by decide +kernel, rfl, by decide +kernel, by decide +kernel⟩
theorem ok_Program___len__ (F : FnP K "__len__" "Program.__len__" (meth 36 7) f fd) (g_len : mg "len" = none) (kc : KitC K C) (pa : PrA K C) (gP : mg "Program" = some (.ref C)) : FnOk P w K mg base CX0 1 f fd ["self"] (sp_Program___len__ K C) := by
  refine F.ok sc_Program___len__ (sx_len ln_Program___len__) (fun cdv A outer s H vs Q E hr h => ?_)
  have nd := sc_Program___len__.nd
  refine ⟨_, PSs.nox (pss_one (ps_ret (pe_callB (lenK (K := K) rfl) rfl g_len PySem.boot_len (pa_cons (pe_fld (pv 0) rfl) (pa_nil))))), ?_⟩
  refine body_x nm_Program___len__ ?_ vs H Q E h
  clear h hr
  intro c n x hK hp
  (subst hK)
  try clear g_len F
  walk_at "WK"
  refine ⟨C, _, _, rfl, kc.cl, pa.a2, rfl, ?_⟩
  walk_at "WK"
  rw [wtx_len]
  exact ⟨rfl, rfl⟩
abbrev sp_Program___eq__ (K : PySem.W.Frag) (C : Addr) : Sp := SpX (ι := List Wd × List Wd) K (fun x => [progD C x.1, progD C x.2]) (fun _ _ => True) fun x n d m => d = .py (.bool (decide (joinW x.1 = joinW x.2))) ∧ m = n
theorem ln_Program___eq__ (x : List Wd × List Wd) : [progD C x.1, progD C x.2].length = 2 := rfl
theorem nm_Program___eq__ (x : List Wd × List Wd) : [progD C x.1, progD C x.2].all D.nm = true := rfl
theorem sc_Program___eq__ : FnScope ["self", "other"] ["self", "other"] (defScope (meth 36 8)) := ⟨rfl, rfl, rfl, by decide +kernel, rfl, by decide +kernel, by decide +kernel⟩
theorem ok_Program___eq__ (F : FnP K "__eq__" "Program.__eq__" (meth 36 8) f fd) (g_isinstance : mg "isinstance" = none) (kc : KitC K C) (pa : PrA K C) (gP : mg "Program" = some (.ref C)) : FnOk P w K mg base CX0 1 f fd ["self", "other"] (sp_Program___eq__ K C) := by
  refine F.ok sc_Program___eq__ (sx_len ln_Program___eq__) (fun cdv A outer s H vs Q E hr h => ?_)
  have nd := sc_Program___eq__.nd
  refine ⟨_, PSs.nox (pss_one (ps_ret (pe_and (pe_callB (isiK (K := K) rfl) rfl g_isinstance bt_isinstance (pa_cons (pv 1) (pa_cons (pe_glob (v := .ref C) rfl gP rfl) pa_nil))) (pe_one (pe_cmpR (eqK (K := K) rfl (room64 hr)) (pe_fld (pv 0) rfl) (pe_fld (pv 1) rfl) (nomark _)))))), ?_⟩
  refine body_x nm_Program___eq__ ?_ vs H Q E h
  clear h hr
  intro c n x hK hp
  (subst hK)
  try clear g_isinstance F
  walk_at "WK"
  refine cw_isiC rfl (ty2_i kc) kc.me ?_
  walk_at "WK"
  refine ⟨fun _ => ?_, fun z => (nomatch z)⟩
  walk_at "WK"
  refine ⟨C, _, _, rfl, kc.cl, pa.a1, rfl, ?_⟩
  walk_at "WK"
  refine ⟨C, _, _, rfl, kc.cl, pa.a1, rfl, ?_⟩
  walk_at "WK"
  refine ⟨shp_str (joinW_ok x.1), shp_str (joinW_ok x.2), ?_⟩
  rw [eqv_strD]
  exact ⟨rfl, rfl⟩
end
end Wx

/-! ### part Zp -/
set_option Elab.async false
set_option linter.all false
set_option maxRecDepth 100000
set_option maxHeartbeats 1000000
set_option autoImplicit false
/-! The plain law of plans. -/
namespace Wx
open PySem L2
/-! ## the uses of cells -/
inductive Use where
  | fixed
  | kept
  | spare
deriving DecidableEq
abbrev Cell := Key × Use
def cntU (u : Use) (a : Key) (cs : List Cell) : Nat := cs.countP fun c => decide (c = (a, u))
def cntNF (cs : List Cell) (a : Key) : Nat := cntU .kept a cs + cntU .spare a cs
def useF (goal pl R : List Key) (cs : List Cell) (i : Nat) (a : Key) : Use := if fixB goal pl i = true then .fixed else if cntNF cs a < cntL R a then .kept else .spare
def cellsN (goal pl R : List Key) : Nat → List Cell
  | 0 => []
  | i + 1 => cellsN goal pl R i ++ (match pl[i]? with | none => [] | some a => [(a, useF goal pl R (cellsN goal pl R i) i a)])
theorem cellsN_snoc {goal pl R : List Key} {i : Nat} {a : Key} (h : pl[i]? = some a) : cellsN goal pl R (i + 1) = cellsN goal pl R i ++ [(a, useF goal pl R (cellsN goal pl R i) i a)] := by
  show cellsN goal pl R i ++ _ = _
  rw [h]
theorem cntU_snoc (u : Use) (a : Key) (cs : List Cell) (c : Cell) : cntU u a (cs ++ [c]) = cntU u a cs + if c = (a, u) then 1 else 0 := by
  unfold cntU
  rw [List.countP_append, List.countP_cons, List.countP_nil]
  by_cases h : c = (a, u) <;> simp [h]
theorem cntL_count (l : List Key) (a : Key) : cntL l a = l.countP fun x => decide (x = a) := by
  unfold cntL
  rw [List.countP_eq_length_filter]
theorem cntL_app (l m : List Key) (a : Key) : cntL (l ++ m) a = cntL l a + cntL m a := by rw [cntL_count, cntL_count, cntL_count, List.countP_append]
theorem cntL_one (x a : Key) : cntL [x] a = if x = a then 1 else 0 := by
  rw [cntL_count, List.countP_cons, List.countP_nil]
  by_cases h : x = a <;> simp [h]
theorem cntL_cons (x : Key) (l : List Key) (a : Key) : cntL (x :: l) a = (if x = a then 1 else 0) + cntL l a := by
  have := cntL_app [x] l a
  rw [cntL_one] at this
  exact this
def fixedC (c : Cell) : Bool := decide (c.2 = .fixed)
def keepC (c : Cell) : Bool := !decide (c.2 = .spare)
def lbs (cs : List Cell) : List Key := cs.map Prod.fst
theorem cellsN_facts (goal pl R : List Key) : ∀ i, i ≤ pl.length → lbs (cellsN goal pl R i) = pl.take i ∧ lbs ((cellsN goal pl R i).filter fixedC) = goal.take (standF goal (pl.take i)) ∧ ∀ a, cntU .kept a (cellsN goal pl R i) = min (cntNF (cellsN goal pl R i) a) (cntL R a)
  | 0, _ => ⟨by simp [cellsN, lbs], by simp [cellsN, lbs, standF], fun a => by simp [cellsN, cntU, cntNF]⟩
  | i + 1, hi => by
    obtain ⟨h1, h2, h3⟩ := cellsN_facts goal pl R i (by omega)
    obtain ⟨a, ha⟩ : ∃ a, pl[i]? = some a := ⟨_, List.getElem?_eq_getElem (by omega)⟩
    have ts : pl.take (i + 1) = pl.take i ++ [a] := by rw [List.take_add_one, ha]; rfl
    rw [cellsN_snoc ha, ts]
    have sn := stand_snoc goal (pl.take i) a
    have fb : fixB goal pl i = decide (goal[standF goal (pl.take i)]? = some a) := by unfold fixB; rw [ha]
    refine ⟨?_, ?_, fun b => ?_⟩
    · unfold lbs at h1 ⊢
      rw [List.map_append, h1]
      rfl
    · unfold lbs at h2 ⊢
      rw [List.filter_append, List.map_append, h2, sn]
      unfold useF
      rw [fb]
      by_cases q : goal[standF goal (pl.take i)]? = some a
      · rw [if_pos q, decide_eq_true q, if_pos rfl, List.take_add_one, q]
        rfl
      · rw [if_neg q, decide_eq_false q, if_neg (fun z => nomatch z)]
        have : (fixedC (a, if cntNF (cellsN goal pl R i) a < cntL R a then Use.kept else Use.spare)) = false := by
          unfold fixedC
          split <;> rfl
        rw [List.filter_cons_of_neg (by rw [this]; exact fun z => nomatch z)]
        simp
    · have h3b := h3 b
      unfold cntNF at h3b ⊢
      rw [cntU_snoc, cntU_snoc]
      unfold useF
      by_cases q : fixB goal pl i = true
      · rw [if_pos q]
        have e1 : ¬ ((a, Use.fixed) = (b, Use.kept)) := fun z => nomatch (Prod.mk.inj z).2
        have e2 : ¬ ((a, Use.fixed) = (b, Use.spare)) := fun z => nomatch (Prod.mk.inj z).2
        rw [if_neg e1, if_neg e2]
        exact h3b
      · rw [if_neg q]
        by_cases e : a = b
        · subst e
          unfold cntNF
          by_cases l : cntU .kept a (cellsN goal pl R i) + cntU .spare a (cellsN goal pl R i) < cntL R a
          · rw [if_pos l, if_pos rfl, if_neg (by simp)]
            omega
          · rw [if_neg l, if_neg (by simp), if_pos rfl]
            omega
        · rw [if_neg (fun z => e (Prod.mk.inj z).1), if_neg (fun z => e (Prod.mk.inj z).1)]
          exact h3b
/-! ## counts over labels -/
theorem sum_ind {ks : List Key} (hn : ks.Nodup) {a : Key} (h : a ∈ ks) : (ks.map fun k => if a = k then (1 : Int) else 0).sum = 1 := by
  have z : ∀ l : List Key, a ∉ l → (l.map fun k => if a = k then (1 : Int) else 0).sum = 0 := fun l => by
    induction l with
    | nil => intro _; rfl
    | cons b l ih =>
      intro hb
      rw [List.map_cons, List.sum_cons, ih fun w => hb (List.mem_cons_of_mem _ w), if_neg fun w => hb (by rw [w]; exact List.mem_cons_self)]
      rfl
  induction ks with
  | nil => cases h
  | cons b l ih =>
    rw [List.nodup_cons] at hn
    rw [List.map_cons, List.sum_cons]
    by_cases e : a = b
    · subst e
      rw [if_pos rfl, z l hn.1]
      rfl
    · rw [if_neg e, ih hn.2 ((List.mem_cons.mp h).resolve_left e)]
      rfl
theorem sum_add (f g : Key → Int) : ∀ l : List Key, (l.map fun k => f k + g k).sum = (l.map f).sum + (l.map g).sum
  | [] => rfl
  | a :: l => by rw [List.map_cons, List.map_cons, List.map_cons, List.sum_cons, List.sum_cons, List.sum_cons, sum_add f g l]; omega
theorem sum_zero : ∀ l : List Key, (l.map fun _ => (0 : Int)).sum = 0
  | [] => rfl
  | a :: l => by rw [List.map_cons, List.sum_cons, sum_zero l]; rfl
theorem sum_count {ks : List Key} (hn : ks.Nodup) (u : Use) : ∀ cs : List Cell, (∀ c ∈ cs, c.1 ∈ ks) → (ks.map fun k => ((cntU u k cs : Nat) : Int)).sum = ((cs.countP fun c => decide (c.2 = u) : Nat) : Int)
  | [], _ => sum_zero ks
  | c :: cs, h => by
    have ih := sum_count hn u cs fun x hx => h x (List.mem_cons_of_mem _ hx)
    rw [List.countP_cons]
    by_cases e : c.2 = u
    · have w : (ks.map fun k => ((cntU u k (c :: cs) : Nat) : Int)) = ks.map fun k => ((cntU u k cs : Nat) : Int) + if c.1 = k then (1 : Int) else 0 := List.map_congr_left fun k _ => by
        unfold cntU
        rw [List.countP_cons]
        by_cases q : c.1 = k
        · have q2 : c = (k, u) := by rw [← q, ← e]
          rw [if_pos q, decide_eq_true q2, if_pos rfl]
          omega
        · have q2 : ¬ c = (k, u) := fun z => q (by rw [z])
          rw [if_neg q, decide_eq_false q2, if_neg (fun z => nomatch z)]
          omega
      rw [w, sum_add, ih, sum_ind hn (h c List.mem_cons_self), decide_eq_true e, if_pos rfl]
      omega
    · have w : (ks.map fun k => ((cntU u k (c :: cs) : Nat) : Int)) = ks.map fun k => ((cntU u k cs : Nat) : Int) := List.map_congr_left fun k _ => by
        unfold cntU
        rw [List.countP_cons]
        have q2 : ¬ c = (k, u) := fun z => e (by rw [z])
        rw [decide_eq_false q2, if_neg (fun z => nomatch z)]
        rfl
      rw [w, ih, decide_eq_false e, if_neg (fun z => nomatch z)]
      rfl
theorem cnt_split (a : Key) : ∀ cs : List Cell, cntL (lbs cs) a = cntL (lbs (cs.filter fixedC)) a + cntNF cs a
  | [] => rfl
  | c :: cs => by
    have ih := cnt_split a cs
    obtain ⟨b, u⟩ := c
    have hl : lbs ((b, u) :: cs) = b :: lbs cs := rfl
    rw [hl, cntL_cons]
    unfold cntNF cntU at ih ⊢
    rw [List.countP_cons, List.countP_cons]
    cases u with
    | fixed =>
      rw [List.filter_cons_of_pos rfl, show lbs ((b, Use.fixed) :: cs.filter fixedC) = b :: lbs (cs.filter fixedC) from rfl, cntL_cons]
      rw [decide_eq_false (show ¬ (b, Use.fixed) = (a, Use.kept) from fun z => nomatch (Prod.mk.inj z).2), decide_eq_false (show ¬ (b, Use.fixed) = (a, Use.spare) from fun z => nomatch (Prod.mk.inj z).2)]
      simp only [Bool.false_eq_true, if_false]
      omega
    | kept =>
      rw [List.filter_cons_of_neg (by simp [fixedC])]
      rw [decide_eq_false (show ¬ (b, Use.kept) = (a, Use.spare) from fun z => nomatch (Prod.mk.inj z).2)]
      by_cases q : b = a
      · subst q; simp only [decide_true, if_true, Bool.false_eq_true, if_false]; omega
      · rw [decide_eq_false (show ¬ (b, Use.kept) = (a, Use.kept) from fun z => q (Prod.mk.inj z).1), if_neg q]; simp only [Bool.false_eq_true, if_false]; omega
    | spare =>
      rw [List.filter_cons_of_neg (by simp [fixedC])]
      rw [decide_eq_false (show ¬ (b, Use.spare) = (a, Use.kept) from fun z => nomatch (Prod.mk.inj z).2)]
      by_cases q : b = a
      · subst q; simp only [decide_true, if_true, Bool.false_eq_true, if_false]; omega
      · rw [decide_eq_false (show ¬ (b, Use.spare) = (a, Use.spare) from fun z => q (Prod.mk.inj z).1), if_neg q]; simp only [Bool.false_eq_true, if_false]; omega
def cellsF (goal left : List Key) : List Cell := cellsN goal left (goal.drop (standF goal left)) left.length
theorem cellsF_lbs (goal left : List Key) : lbs (cellsF goal left) = left := by
  have := (cellsN_facts goal left (goal.drop (standF goal left)) left.length (Nat.le_refl _)).1
  rwa [List.take_length] at this
theorem cellsF_fixed (goal left : List Key) : lbs ((cellsF goal left).filter fixedC) = goal.take (standF goal left) := by
  have := (cellsN_facts goal left (goal.drop (standF goal left)) left.length (Nat.le_refl _)).2.1
  rwa [List.take_length] at this
theorem cellsF_kept (goal left : List Key) (a : Key) : cntU .kept a (cellsF goal left) = min (cntNF (cellsF goal left) a) (cntL (goal.drop (standF goal left)) a) :=
  (cellsN_facts goal left (goal.drop (standF goal left)) left.length (Nat.le_refl _)).2.2 a
theorem cellsF_spare (goal left : List Key) (a : Key) : (cntU .spare a (cellsF goal left) : Int) = mx0 ((cntL left a : Int) - cntL goal a) := by
  have h1 := cnt_split a (cellsF goal left)
  rw [cellsF_lbs, cellsF_fixed] at h1
  have h2 := cellsF_kept goal left a
  have h3 := cntL_app (goal.take (standF goal left)) (goal.drop (standF goal left)) a
  rw [List.take_append_drop] at h3
  unfold cntNF at h1 h2
  unfold mx0
  split <;> omega
def spN (cs : List Cell) : Nat := cs.countP fun c => decide (c.2 = .spare)
theorem spare_cells (goal left : List Key) : spareF left goal = (spN (cellsF goal left) : Int) := by
  have hk := tal_keys left
  unfold spN
  rw [← sum_count hk .spare (cellsF goal left) fun c hc => ?_]
  · unfold spareF
    rw [List.map_map]
    refine congrArg List.sum (List.map_congr_left fun p hp => ?_)
    have h1 := mem_getI hk hp
    have h2 := cnt_tal p.1 left
    have h3 := cnt_tal p.1 goal
    have h4 := cellsF_spare goal left p.1
    unfold cnt at h2
    rw [h1] at h2
    have h2' : p.2 = (cntL left p.1 : Int) := h2
    simp only [Function.comp]
    rw [h4, h2', h3]
  · have hm : c.1 ∈ left := by
      have : c.1 ∈ lbs (cellsF goal left) := List.mem_map.mpr ⟨c, hc, rfl⟩
      rwa [cellsF_lbs] at this
    have h2 := cnt_tal c.1 left
    have h5 : 0 < cntL left c.1 := by
      rw [cntL_count]
      exact List.countP_pos_iff.mpr ⟨c.1, hm, by simp⟩
    cases q : getI (tal left) c.1 with
    | none =>
      unfold cnt at h2
      rw [q] at h2
      have : (0 : Int) = cntL left c.1 := h2
      omega
    | some v => exact List.mem_map.mpr ⟨_, getI_mem q, rfl⟩
end Wx

/-! ### part Zq -/
set_option Elab.async false
set_option linter.all false
set_option maxRecDepth 100000
set_option maxHeartbeats 1000000
set_option autoImplicit false
/-! Plans performed. -/
namespace Wx
open PySem L2
inductive StepK (T : Nat) : List Key → Wd → List Key → Prop
  | d (l : List Key) (a : Key) : StepK T (l ++ [a]) .d l
  | p (u : List Key) (a : Key) (v : List Key) : (u ++ a :: v).length < T → StepK T (u ++ a :: v) (.p v.length) (u ++ a :: v ++ [a])
  | r (u : List Key) (a : Key) (v : List Key) : StepK T (u ++ a :: v) (.r v.length) (u ++ v ++ [a])
  | c (l : List Key) (v : Int) : l.length < T → StepK T l (.c v) (l ++ [.inl v])
inductive RunK (T : Nat) : List Key → List Wd → List Key → Prop
  | nil (l : List Key) : RunK T l [] l
  | cons {l m n : List Key} {w : Wd} {ws : List Wd} : StepK T l w m → RunK T m ws n → RunK T l (w :: ws) n
theorem RunK.one {T : Nat} {l m : List Key} {w : Wd} (h : StepK T l w m) : RunK T l [w] m := .cons h (.nil m)
theorem RunK.append {T : Nat} {l m n : List Key} {ws vs : List Wd} (h : RunK T l ws m) (g : RunK T m vs n) : RunK T l (ws ++ vs) n := by
  induction h with
  | nil l => exact g
  | cons s _ ih => exact .cons s (ih g)
theorem RunK.split {T : Nat} {l n : List Key} {ws vs : List Wd} (h : RunK T l (ws ++ vs) n) : ∃ m, RunK T l ws m ∧ RunK T m vs n := by
  induction ws generalizing l with
  | nil => exact ⟨l, .nil l, h⟩
  | cons w ws ih =>
    cases h with
    | cons s r =>
      obtain ⟨m, h1, h2⟩ := ih r
      exact ⟨m, .cons s h1, h2⟩
theorem RunK.snoc {T : Nat} {l n : List Key} {ws : List Wd} {w : Wd} (h : RunK T l (ws ++ [w]) n) : ∃ m, RunK T l ws m ∧ StepK T m w n := by
  obtain ⟨m, h1, h2⟩ := h.split
  cases h2 with
  | cons s r =>
    cases r
    exact ⟨m, h1, s⟩
theorem mxI_le {a b c : Int} (h1 : a ≤ c) (h2 : b ≤ c) : mxI a b ≤ c := by unfold mxI; split <;> omega
theorem run_high {T : Nat} {l : List Key} (hl : l.length ≤ T) (ws : List Wd) : ∀ n, RunK T l ws n → (mWs ws).1 ≤ (l.length : Int) ∧ (mWs ws).2.1 ≤ (T : Int) - l.length ∧ (mWs ws).2.2 = (n.length : Int) - l.length ∧ n.length ≤ T := by
  refine snoc_ind (p := fun ws => ∀ n, RunK T l ws n → (mWs ws).1 ≤ (l.length : Int) ∧ (mWs ws).2.1 ≤ (T : Int) - l.length ∧ (mWs ws).2.2 = (n.length : Int) - l.length ∧ n.length ≤ T) (fun n h => ?_) (fun ws w ih n h => ?_) ws
  · cases h
    refine ⟨by show (0 : Int) ≤ _; omega, by show (0 : Int) ≤ _; omega, by show (0 : Int) = _; omega, hl⟩
  · obtain ⟨m, h1, h2⟩ := h.snoc
    obtain ⟨i1, i2, i3, i4⟩ := ih m h1
    rw [mWs_snoc]
    unfold joinM
    dsimp only
    cases h2 with
    | d n a =>
      rw [List.length_append, List.length_singleton] at i3 i4
      refine ⟨mxI_le i1 (by show (1 : Int) - _ ≤ _; omega), mxI_le i2 (by show _ + (0 : Int) ≤ _; omega), by show _ + (-1 : Int) = _; omega, by omega⟩
    | p u a v lt =>
      simp only [List.length_append, List.length_cons, List.length_nil] at i3 i4 lt ⊢
      refine ⟨mxI_le i1 (by show ((v.length : Int) + 1) - _ ≤ _; omega), mxI_le i2 (by show _ + (1 : Int) ≤ _; omega), by show _ + (1 : Int) = _; omega, by omega⟩
    | r u a v =>
      simp only [List.length_append, List.length_cons, List.length_nil] at i3 i4 ⊢
      refine ⟨mxI_le i1 (by show ((v.length : Int) + 1) - _ ≤ _; omega), mxI_le i2 (by show _ + (0 : Int) ≤ _; omega), by show _ + (0 : Int) = _; omega, by omega⟩
    | c l v lt =>
      simp only [List.length_append, List.length_cons, List.length_nil] at i3 i4 lt ⊢
      refine ⟨mxI_le i1 (by show (0 : Int) - _ ≤ _; omega), mxI_le i2 (by show _ + (1 : Int) ≤ _; omega), by show _ + (1 : Int) = _; omega, by omega⟩
/-! ## clearing -/
def keepN (cs : List Cell) : Nat := (cs.filter keepC).length
def clr1 (u : Use) (k : Nat) : List Wd := if u = .spare then (if 0 < k then [.r k, .d] else [.d]) else []
def clrW : List Cell → List Wd
  | [] => []
  | c :: r => clrW r ++ clr1 c.2 (keepN r)
theorem clr_run (T : Nat) : ∀ (s : List Cell) (p : List Key), RunK T (p ++ lbs s) (clrW s) (p ++ lbs (s.filter keepC))
  | [], p => by
    show RunK T (p ++ []) [] (p ++ [])
    exact .nil _
  | c :: r, p => by
    have ih := clr_run T r (p ++ [c.1])
    rw [List.append_assoc, List.append_assoc] at ih
    refine ih.append ?_
    unfold clr1
    by_cases q : c.2 = .spare
    · have e : (c :: r).filter keepC = r.filter keepC := List.filter_cons_of_neg (by unfold keepC; rw [decide_eq_true q]; exact fun z => nomatch z)
      rw [if_pos q, e]
      by_cases k : 0 < keepN r
      · rw [if_pos k]
        have h := StepK.r (T := T) p c.1 (lbs (r.filter keepC))
        have hl : (lbs (r.filter keepC)).length = keepN r := List.length_map _
        rw [hl] at h
        refine .cons (m := p ++ lbs (r.filter keepC) ++ [c.1]) h (.one (.d _ _))
      · rw [if_neg k]
        have hz : r.filter keepC = [] := List.eq_nil_of_length_eq_zero (by unfold keepN at k; omega)
        rw [hz]
        have h := StepK.d (T := T) p c.1
        show RunK T (p ++ ([c.1] ++ [])) [.d] (p ++ [])
        rw [List.append_nil, List.append_nil]
        exact .one h
    · have e : (c :: r).filter keepC = c :: r.filter keepC := List.filter_cons_of_pos (by unfold keepC; rw [decide_eq_false q]; rfl)
      rw [if_neg q, e]
      exact .nil _
theorem clr_len : ∀ s : List Cell, (∀ c, s.getLast? = some c → c.2 ≠ .spare) → (clrW s).length = 2 * spN s
  | [], _ => rfl
  | c :: r, h => by
    have hr : ∀ c', r.getLast? = some c' → c'.2 ≠ .spare := fun c' hc => by
      refine h c' ?_
      cases r with
      | nil => cases hc
      | cons a r => rw [List.getLast?_cons_cons]; exact hc
    have ih := clr_len r hr
    show (clrW r ++ clr1 c.2 (keepN r)).length = _
    rw [List.length_append, ih]
    unfold spN clr1
    rw [List.countP_cons]
    by_cases q : c.2 = .spare
    · rw [if_pos q, decide_eq_true q, if_pos rfl]
      have k : 0 < keepN r := by
        cases r with
        | nil => exact absurd q (h c rfl)
        | cons a r =>
          obtain ⟨z, hz⟩ : ∃ z, (a :: r).getLast? = some z := ⟨_, List.getLast?_eq_some_getLast (by simp)⟩
          have hz2 := hr z hz
          have hm : z ∈ a :: r := List.mem_of_getLast? hz
          refine List.length_pos_iff.mpr fun e => ?_
          have : z ∈ (a :: r).filter keepC := List.mem_filter.mpr ⟨hm, by unfold keepC; rw [decide_eq_false hz2]; rfl⟩
          rw [e] at this
          cases this
      rw [if_pos k]
      show _ + 2 = _
      omega
    · rw [if_neg q, decide_eq_false q, if_neg (fun z => nomatch z)]
      rfl
theorem keepN_le (s : List Cell) : keepN s ≤ s.length := List.length_filter_le _ _
theorem clr_ok : ∀ s : List Cell, s.length ≤ 100 → ∀ w ∈ clrW s, okWd w
  | [], _, w, h => by cases h
  | c :: r, hl, w, h => by
    rw [List.length_cons] at hl
    rcases List.mem_append.mp h with h | h
    · exact clr_ok r (by omega) w h
    · unfold clr1 at h
      have := keepN_le r
      split at h
      · split at h
        · rcases List.mem_cons.mp h with h | h
          · subst h
            exact ⟨by omega, by omega⟩
          · cases List.mem_singleton.mp h
            trivial
        · cases List.mem_singleton.mp h
          trivial
      · cases h
/-! ## growing -/
def dep (P : Cell → Bool) (cs : List Cell) : Option Nat := cs.reverse.findIdx? P
theorem dep_some {P : Cell → Bool} {cs : List Cell} {d : Nat} (h : dep P cs = some d) : ∃ u c v, cs = u ++ c :: v ∧ v.length = d ∧ P c = true ∧ ∀ x ∈ v, P x = false := by
  unfold dep at h
  rw [List.findIdx?_eq_some_iff_getElem] at h
  obtain ⟨hd, h1, h2⟩ := h
  have hd' : d < cs.length := by rwa [List.length_reverse] at hd
  have e : cs = cs.take (cs.length - 1 - d) ++ cs[cs.length - 1 - d] :: cs.drop (cs.length - 1 - d + 1) := by
    rw [List.getElem_cons_drop, List.take_append_drop]
  refine ⟨_, _, _, e, by rw [List.length_drop]; omega, ?_, fun x hx => ?_⟩
  · rw [List.getElem_reverse] at h1
    exact h1
  · obtain ⟨j, hj, rfl⟩ := List.mem_iff_getElem.mp hx
    rw [List.length_drop] at hj
    rw [List.getElem_drop]
    have h3 := h2 (d - 1 - j) (by omega)
    rw [List.getElem_reverse] at h3
    have e2 : cs.length - 1 - (d - 1 - j) = cs.length - 1 - d + 1 + j := by omega
    simp only [e2] at h3
    exact Bool.eq_false_iff.mpr h3
theorem dep_none {P : Cell → Bool} {cs : List Cell} (h : dep P cs = none) (c : Cell) (hc : c ∈ cs) : P c = false := by
  unfold dep at h
  rw [List.findIdx?_eq_none_iff] at h
  exact h c (List.mem_reverse.mpr hc)
def isK (a : Key) (c : Cell) : Bool := decide (c = (a, .kept))
def isL (a : Key) (c : Cell) : Bool := decide (c.1 = a)
def valK : Key → Int
  | .inl v => v
  | .inr _ => 0
def nextC (cs : List Cell) (a : Key) : Wd × List Cell := match dep (isK a) cs with
  | some d => (.r d, cs.eraseIdx (cs.length - 1 - d) ++ [(a, .fixed)])
  | none => (match dep (isL a) cs with | some d => .p d | none => .c (valK a), cs ++ [(a, .fixed)])
def growS (st : List Wd × List Cell) (R : List Key) : List Wd × List Cell := R.foldl (fun st a => (st.1 ++ [(nextC st.2 a).1], (nextC st.2 a).2)) st
theorem grow_snoc (st : List Wd × List Cell) (R : List Key) (a : Key) : growS st (R ++ [a]) = ((growS st R).1 ++ [(nextC (growS st R).2 a).1], (nextC (growS st R).2 a).2) := by unfold growS; rw [List.foldl_append]; rfl
theorem grow_cons (st : List Wd × List Cell) (R : List Key) (a : Key) : growS st (a :: R) = growS (st.1 ++ [(nextC st.2 a).1], (nextC st.2 a).2) R := rfl
/-- what one step does -/
theorem next_facts (cs : List Cell) (a : Key) (hns : ∀ c ∈ cs, c.2 ≠ .spare) :
    lbs (((nextC cs a).2).filter fixedC) = lbs (cs.filter fixedC) ++ [a] ∧ (∀ b, cntU .kept b (nextC cs a).2 = cntU .kept b cs - if b = a then 1 else 0) ∧ (∀ c ∈ (nextC cs a).2, c.2 ≠ .spare) ∧ cs.length ≤ (nextC cs a).2.length ∧ (nextC cs a).2.length ≤ cs.length + 1 ∧
    (∃ s, (nextC cs a).2 = s ++ [(a, .fixed)]) ∧ (∀ c ∈ cs, c.1 ∈ lbs (nextC cs a).2) := by
  unfold nextC
  cases q : dep (isK a) cs with
  | some d =>
    obtain ⟨u, c, v, rfl, hv, hc, hn⟩ := dep_some q
    have hc' : c = (a, .kept) := of_decide_eq_true hc
    subst hc'
    dsimp only
    have e : (u ++ (a, Use.kept) :: v).eraseIdx ((u ++ (a, Use.kept) :: v).length - 1 - d) = u ++ v := by
      have : (u ++ (a, Use.kept) :: v).length - 1 - d = u.length := by simp; omega
      rw [this, List.eraseIdx_append_of_length_le (Nat.le_refl _)]
      simp
    rw [e]
    refine ⟨?_, fun b => ?_, fun c hc => ?_, by simp <;> omega, by simp <;> omega, ⟨_, rfl⟩, fun c hc => ?_⟩
    · have f1 : fixedC (a, Use.kept) = false := rfl
      have f2 : fixedC (a, Use.fixed) = true := rfl
      simp [lbs, List.filter_append, List.filter_cons, f1, f2]
    · unfold cntU
      simp only [List.countP_append, List.countP_cons, List.countP_nil]
      by_cases e : b = a
      · subst e
        simp
      · have e' : ¬ a = b := fun z => e z.symm
        simp [e, e']
    · rcases List.mem_append.mp hc with hc | hc
      · exact hns c (by rcases List.mem_append.mp hc with hc | hc <;> simp [hc])
      · cases List.mem_singleton.mp hc
        exact fun z => nomatch z
    · unfold lbs
      simp only [List.map_append, List.mem_append, List.mem_map, List.map_cons, List.map_nil, List.mem_cons, List.not_mem_nil, or_false] at hc ⊢
      rcases hc with hc | rfl | hc
      · exact .inl (.inl ⟨c, hc, rfl⟩)
      · exact .inr rfl
      · exact .inl (.inr ⟨c, hc, rfl⟩)
  | none =>
    have hk := dep_none q
    have h0 : cntU .kept a cs = 0 := by
      unfold cntU
      rw [List.countP_eq_zero]
      intro c hc
      have := hk c hc
      unfold isK at this
      rw [this]
      exact fun z => nomatch z
    dsimp only
    refine ⟨?_, fun b => ?_, fun c hc => ?_, by rw [List.length_append]; exact Nat.le_add_right _ _, by rw [List.length_append]; exact Nat.le_refl _, ⟨_, rfl⟩, fun c hc => ?_⟩
    · rw [List.filter_append, List.filter_cons_of_pos rfl]
      simp [lbs]
    · rw [cntU_snoc, if_neg (show ¬ ((a, Use.fixed) = (b, Use.kept)) by simp)]
      by_cases e : b = a
      · subst e
        rw [h0]
        simp
      · rw [if_neg e]; rfl
    · rcases List.mem_append.mp hc with hc | hc
      · exact hns c hc
      · cases List.mem_singleton.mp hc
        exact fun z => nomatch z
    · unfold lbs
      rw [List.map_append]
      exact List.mem_append_left _ (List.mem_map.mpr ⟨c, hc, rfl⟩)
theorem next_run (T : Nat) (cs : List Cell) (a : Key) (hT : (nextC cs a).2.length ≤ T) (hc : isStr a = true → a ∈ lbs cs) : RunK T (lbs cs) [(nextC cs a).1] (lbs (nextC cs a).2) := by
  unfold nextC at hT ⊢
  cases q : dep (isK a) cs with
  | some d =>
    obtain ⟨u, c, v, rfl, hv, hk, _⟩ := dep_some q
    have hc' : c = (a, .kept) := of_decide_eq_true hk
    subst hc'
    dsimp only
    have e : (u ++ (a, Use.kept) :: v).eraseIdx ((u ++ (a, Use.kept) :: v).length - 1 - d) = u ++ v := by
      have : (u ++ (a, Use.kept) :: v).length - 1 - d = u.length := by simp; omega
      rw [this, List.eraseIdx_append_of_length_le (Nat.le_refl _)]
      simp
    rw [e]
    have h := StepK.r (T := T) (lbs u) a (lbs v)
    have hl : (lbs v).length = d := by unfold lbs; rw [List.length_map]; exact hv
    rw [hl] at h
    unfold lbs at h ⊢
    rw [List.map_append, List.map_append, List.map_append]
    exact .one h
  | none =>
    rw [q] at hT
    dsimp only at hT ⊢
    rw [List.length_append, List.length_singleton] at hT
    cases q2 : dep (isL a) cs with
    | some d =>
      obtain ⟨u, c, v, rfl, hv, hk, _⟩ := dep_some q2
      have hc' : c.1 = a := of_decide_eq_true hk
      subst hc'
      dsimp only
      have hl : (lbs v).length = d := by unfold lbs; rw [List.length_map]; exact hv
      have h := StepK.p (T := T) (lbs u) c.1 (lbs v) (by
        have : (lbs u ++ c.1 :: lbs v).length = (u ++ c :: v).length := by unfold lbs; simp
        omega)
      rw [hl] at h
      have e1 : lbs (u ++ c :: v) = lbs u ++ c.1 :: lbs v := by unfold lbs; rw [List.map_append]; rfl
      have e2 : lbs (u ++ c :: v ++ [(c.1, Use.fixed)]) = lbs u ++ c.1 :: lbs v ++ [c.1] := by unfold lbs; rw [List.map_append, List.map_append]; rfl
      rw [e1, e2]
      exact .one h
    | none =>
      dsimp only
      cases a with
      | inl v =>
        have h := StepK.c (T := T) (lbs cs) v (by unfold lbs; rw [List.length_map]; omega)
        unfold lbs at h ⊢
        rw [List.map_append]
        exact .one h
      | inr v =>
        obtain ⟨c, h1, h2⟩ := List.mem_map.mp (hc rfl)
        have := dep_none q2 c h1
        unfold isL at this
        exact absurd h2 (of_decide_eq_false this)
/-- a word of the plan is an instruction -/
theorem next_ok (cs : List Cell) (a : Key) (hl : cs.length ≤ 100) (hl2 : (nextC cs a).2.length ≤ 100) (ha : ∀ v, a = .inl v → -(10 ^ 30) ≤ v ∧ v ≤ 10 ^ 30) (htop : ∀ s c, cs = s ++ [c] → c ≠ (a, .kept)) : okWd (nextC cs a).1 := by
  unfold nextC at hl2 ⊢
  cases q : dep (isK a) cs with
  | some d =>
    obtain ⟨u, c, v, rfl, hv, hk, _⟩ := dep_some q
    dsimp only
    have hc' : c = (a, .kept) := of_decide_eq_true hk
    simp only [List.length_append, List.length_cons] at hl
    refine ⟨?_, by omega⟩
    by_cases z : d = 0
    · have hv0 : v = [] := List.eq_nil_of_length_eq_zero (by omega)
      subst hv0
      exact absurd hc' (htop u c rfl)
    · omega
  | none =>
    rw [q] at hl2
    dsimp only at hl2 ⊢
    rw [List.length_append, List.length_singleton] at hl2
    cases q2 : dep (isL a) cs with
    | some d =>
      obtain ⟨u, c, v, rfl, hv, _, _⟩ := dep_some q2
      dsimp only
      simp only [List.length_append, List.length_cons] at hl2
      show d ≤ 98
      omega
    | none =>
      dsimp only
      cases a with
      | inl v => exact ha v rfl
      | inr v => exact ⟨by show -(10 ^ 30) ≤ (0 : Int); decide, by show (0 : Int) ≤ 10 ^ 30; decide⟩
theorem grow_facts (T : Nat) (hT : T ≤ 100) : ∀ (R : List Key) (ws : List Wd) (cs : List Cell), (∀ c ∈ cs, c.2 ≠ .spare) → (∀ b, cntU .kept b cs ≤ cntL R b) → (∀ a ∈ R, isStr a = true → a ∈ lbs cs) → (∀ v, Sum.inl v ∈ R → -(10 ^ 30) ≤ v ∧ v ≤ 10 ^ 30) →
    (lbs (cs.filter fixedC) ++ R).length ≤ T → (∀ a s c, R.head? = some a → cs = s ++ [c] → c ≠ (a, .kept)) →
    ∃ vs, (growS (ws, cs) R).1 = ws ++ vs ∧ vs.length = R.length ∧ (∀ w ∈ vs, okWd w) ∧ RunK T (lbs cs) vs (lbs (cs.filter fixedC) ++ R) ∧ cs.length ≤ (lbs (cs.filter fixedC) ++ R).length
  | [], ws, cs, h1, h2, h3, h4, h5, h6 => by
    have hall : ∀ c ∈ cs, fixedC c = true := fun c hc => by
      obtain ⟨b, u⟩ := c
      cases u with
      | fixed => rfl
      | kept =>
        have h0 := h2 b
        have : cntL [] b = 0 := rfl
        have hp : 0 < cntU .kept b cs := List.countP_pos_iff.mpr ⟨_, hc, by simp⟩
        omega
      | spare => exact absurd rfl (h1 _ hc)
    have hf : cs.filter fixedC = cs := List.filter_eq_self.mpr hall
    refine ⟨[], by rw [List.append_nil]; rfl, rfl, fun w hw => (by cases hw), ?_, ?_⟩
    · rw [hf, List.append_nil]
      exact .nil _
    · rw [hf, List.append_nil]
      unfold lbs
      rw [List.length_map]
      exact Nat.le_refl _
  | a :: R, ws, cs, h1, h2, h3, h4, h5, h6 => by
    obtain ⟨n1, n2, n3, n4, n5, ⟨s0, n6⟩, n7⟩ := next_facts cs a h1
    have hl5 : (lbs ((nextC cs a).2.filter fixedC) ++ R).length ≤ T := by
      rw [n1]
      simp only [List.length_append, List.length_cons, List.length_nil] at h5 ⊢
      omega
    obtain ⟨vs, g1, g2, g3, g4, g5⟩ := grow_facts T hT R (ws ++ [(nextC cs a).1]) (nextC cs a).2 n3 (fun b => by
        rw [n2]
        have := h2 b
        rw [cntL_cons] at this
        by_cases e : b = a
        · subst e; rw [if_pos rfl] at this ⊢; omega
        · have e' : ¬ a = b := fun z => e z.symm
          rw [if_neg e'] at this; rw [if_neg e]; omega)
      (fun b hb hs => by
        obtain ⟨c, hc1, hc2⟩ := List.mem_map.mp (h3 b (List.mem_cons_of_mem _ hb) hs)
        have := n7 c hc1
        rwa [hc2] at this)
      (fun v hv => h4 v (List.mem_cons_of_mem _ hv)) hl5 (fun b s c hb hs z => by
        rw [n6] at hs
        have := (List.append_inj' hs rfl).2
        cases List.singleton_inj.mp this
        exact nomatch (Prod.mk.inj z).2)
    have e : lbs ((nextC cs a).2.filter fixedC) ++ R = lbs (cs.filter fixedC) ++ a :: R := by rw [n1, List.append_assoc]; rfl
    rw [e] at g4 g5 hl5
    refine ⟨(nextC cs a).1 :: vs, ?_, by rw [List.length_cons, List.length_cons, g2], fun w hw => ?_, ?_, by omega⟩
    · rw [grow_cons, g1, List.append_assoc]
      rfl
    · rcases List.mem_cons.mp hw with rfl | hw
      · exact next_ok cs a (by omega) (by omega) (fun v hv => h4 v (by rw [hv]; exact List.mem_cons_self)) (fun s c hs => h6 a s c rfl hs)
      · exact g3 w hw
    · exact RunK.append (next_run T cs a (by omega) (h3 a List.mem_cons_self)) g4
end Wx

/-! ### part Zr -/
set_option Elab.async false
set_option linter.all false
set_option maxRecDepth 100000
set_option maxHeartbeats 1000000
set_option autoImplicit false
/-! Plans lead to the goal in the fewest steps. -/
namespace Wx
open PySem L2
theorem drop_run (T : Nat) (l : List Key) : ∀ k, k ≤ l.length → RunK T l (List.replicate k .d) (l.take (l.length - k))
  | 0, _ => by rw [Nat.sub_zero, List.take_length]; exact .nil l
  | k + 1, hk => by
    have ih := drop_run T l k (by omega)
    rw [List.replicate_succ']
    refine ih.append (.one ?_)
    obtain ⟨a, ha⟩ : ∃ a, l[l.length - (k + 1)]? = some a := ⟨_, List.getElem?_eq_getElem (by omega)⟩
    have e : l.take (l.length - k) = l.take (l.length - (k + 1)) ++ [a] := by
      rw [show l.length - k = l.length - (k + 1) + 1 by omega, List.take_add_one, ha]
      rfl
    rw [e]
    exact .d _ _
theorem cellsN_congr (goal R : List Key) (pl : List Key) (m : Nat) : ∀ i, i ≤ m → cellsN goal pl R i = cellsN goal (pl.take m) R i
  | 0, _ => rfl
  | i + 1, h => by
    have ih := cellsN_congr goal R pl m i (by omega)
    have e : (pl.take m)[i]? = pl[i]? := List.getElem?_take_of_lt (by omega)
    have f : fixB goal (pl.take m) i = fixB goal pl i := by
      unfold fixB
      rw [e, List.take_take, Nat.min_eq_left (by omega)]
    show _ ++ _ = _ ++ _
    unfold useF
    rw [ih, e, f]
theorem last_cell (goal l : List Key) (a : Key) : ∃ u, cellsF goal (l ++ [a]) = cellsN goal l (goal.drop (standF goal (l ++ [a]))) l.length ++ [(a, u)] ∧ (u ≠ .fixed → standF goal (l ++ [a]) = standF goal l ∧ goal[standF goal l]? ≠ some a) ∧ (u = .spare → cntL (goal.drop (standF goal (l ++ [a]))) a ≤ cntNF (cellsN goal l (goal.drop (standF goal (l ++ [a]))) l.length) a) := by
  have h1 : (l ++ [a])[l.length]? = some a := by rw [List.getElem?_append_right (Nat.le_refl _)]; simp
  have h2 := cellsN_snoc (goal := goal) (R := goal.drop (standF goal (l ++ [a]))) h1
  have h3 := cellsN_congr goal (goal.drop (standF goal (l ++ [a]))) (l ++ [a]) l.length l.length (Nat.le_refl _)
  have h4 : (l ++ [a]).take l.length = l := by rw [List.take_append_of_le_length (Nat.le_refl _), List.take_length]
  rw [h4] at h3
  rw [h3] at h2
  have h5 : cellsF goal (l ++ [a]) = cellsN goal (l ++ [a]) (goal.drop (standF goal (l ++ [a]))) (l.length + 1) := by
    unfold cellsF
    rw [List.length_append]
    rfl
  have fb : fixB goal (l ++ [a]) l.length = decide (goal[standF goal l]? = some a) := by unfold fixB; rw [h1, h4]
  refine ⟨_, h5.trans h2, fun hu => ?_, fun hu => ?_⟩
  · have q : ¬ goal[standF goal l]? = some a := fun q => hu (by unfold useF; rw [fb, decide_eq_true q, if_pos rfl])
    exact ⟨by rw [stand_snoc, if_neg q], q⟩
  · unfold useF at hu
    split at hu
    · cases hu
    · split at hu
      · cases hu
      · omega
def planW (pl goal : List Key) (k : Nat) : List Wd :=
  (growS (List.replicate k .d ++ clrW (cellsF goal (pl.take (pl.length - k))), (cellsF goal (pl.take (pl.length - k))).filter keepC) (goal.drop (standF goal (pl.take (pl.length - k))))).1
theorem mem_cnt {l : List Key} {a : Key} : a ∈ l ↔ 0 < cntL l a := by
  rw [cntL_count, List.countP_pos_iff]
  exact ⟨fun h => ⟨a, h, by simp⟩, fun ⟨x, h, e⟩ => by rwa [← of_decide_eq_true e]⟩
theorem top_not_spare {pl goal : List Key} {b : Int} {k : Nat} (hb : bestK pl goal (pl.length + 1) = some (b, k)) (c : Cell) (hc : (cellsF goal (pl.take (pl.length - k))).getLast? = some c) : c.2 ≠ .spare ∧ (c.2 = .kept → goal[standF goal (pl.take (pl.length - k))]? ≠ some c.1) := by
  obtain ⟨h1, h2, h3, h4⟩ := (bestK_spec pl goal (pl.length + 1)).2 b k hb
  have hne : pl.take (pl.length - k) ≠ [] := fun z => by
    rw [z] at hc
    cases hc
  have hk : k < pl.length := by
    by_cases q : k < pl.length
    · exact q
    · exact absurd (by rw [show pl.length - k = 0 by omega, List.take_zero]) hne
  obtain ⟨a, ha⟩ : ∃ a, pl[pl.length - (k + 1)]? = some a := ⟨_, List.getElem?_eq_getElem (by omega)⟩
  have e : pl.take (pl.length - k) = pl.take (pl.length - (k + 1)) ++ [a] := by
    rw [show pl.length - k = pl.length - (k + 1) + 1 by omega, List.take_add_one, ha]
    rfl
  have n1 : numF pl goal k = k + (2 * spareF (pl.take (pl.length - k)) goal + goal.length - standF goal (pl.take (pl.length - k))) := rfl
  have n2 : numF pl goal (k + 1) = ((k + 1 : Nat) : Int) + (2 * spareF (pl.take (pl.length - (k + 1))) goal + goal.length - standF goal (pl.take (pl.length - (k + 1)))) := rfl
  have o1 : okF pl goal k = (goal.filter isStr).all fun x => decide (x ∈ pl.take (pl.length - k)) := rfl
  have o2 : okF pl goal (k + 1) = (goal.filter isStr).all fun x => decide (x ∈ pl.take (pl.length - (k + 1))) := rfl
  have hmin := h4 (k + 1) (by omega)
  rw [e] at hc n1 o1 ⊢
  generalize pl.take (pl.length - (k + 1)) = l at *
  obtain ⟨u, g1, g2, g3⟩ := last_cell goal l a
  rw [g1, List.getLast?_append] at hc
  have hc' : c = (a, u) := (Option.some.inj hc).symm
  subst hc'
  refine ⟨fun hu => ?_, fun hu => ?_⟩
  · have hu' : u = .spare := hu
    obtain ⟨s1, s2⟩ := g2 (by rw [hu']; exact fun z => nomatch z)
    have s3 := g3 hu'
    have sp1 := spare_cells goal (l ++ [a])
    have sp2 := spare_cells goal l
    rw [g1] at sp1
    rw [s1] at sp1 s3 n1
    have ec : cellsF goal l = cellsN goal l (goal.drop (standF goal l)) l.length := rfl
    rw [← ec] at sp1 s3
    have sp3 : spN (cellsF goal l ++ [(a, u)]) = spN (cellsF goal l) + 1 := by
      unfold spN
      rw [List.countP_append, hu']
      rfl
    rw [sp3] at sp1
    have ok : okF pl goal (k + 1) = true := by
      rw [o1] at h2
      rw [o2, List.all_eq_true]
      rw [List.all_eq_true] at h2
      intro x hx
      have hm := of_decide_eq_true (h2 x hx)
      refine decide_eq_true ?_
      rcases List.mem_append.mp hm with hm | hm
      · exact hm
      · have hxa := List.mem_singleton.mp hm
        rw [hxa] at hx ⊢
        clear hm hxa
        have hg : 0 < cntL goal a := mem_cnt.mp (List.mem_filter.mp hx).1
        have c1 := cnt_split a (cellsF goal l)
        rw [cellsF_lbs, cellsF_fixed] at c1
        have c2 := cntL_app (goal.take (standF goal l)) (goal.drop (standF goal l)) a
        rw [List.take_append_drop] at c2
        exact mem_cnt.mpr (by omega)
    have := hmin ok
    omega
  · have hu' : u = .kept := hu
    obtain ⟨s1, s2⟩ := g2 (by rw [hu']; exact fun z => nomatch z)
    rw [s1]
    exact s2
theorem filter_last {P : Cell → Bool} {cs s : List Cell} {c : Cell} (h : cs.filter P = s ++ [c]) (hl : ∀ x, cs.getLast? = some x → P x = true) : cs.getLast? = some c := by
  cases q : cs.getLast? with
  | none =>
    have : cs = [] := List.getLast?_eq_none_iff.mp q
    subst this
    simp at h
  | some x =>
    obtain ⟨t, rfl⟩ := List.getLast?_eq_some_iff.mp q
    rw [List.filter_append, List.filter_cons_of_pos (hl x q)] at h
    have := (List.append_inj' h rfl).2
    rw [List.singleton_inj.mp this]
theorem plan_ok {pl goal : List Key} {T : Nat} (hT : T ≤ 100) (hp : pl.length ≤ T) (hg : goal.length ≤ T) (hv : ∀ v, Sum.inl v ∈ goal → -(10 ^ 30) ≤ v ∧ v ≤ 10 ^ 30) {b : Int} {k : Nat} (hb : bestK pl goal (pl.length + 1) = some (b, k)) :
    RunK T pl (planW pl goal k) goal ∧ ((planW pl goal k).length : Int) = b ∧ ∀ w ∈ planW pl goal k, okWd w := by
  obtain ⟨h1, h2, h3, h4⟩ := (bestK_spec pl goal (pl.length + 1)).2 b k hb
  have ht := top_not_spare hb
  have n1 : numF pl goal k = k + (2 * spareF (pl.take (pl.length - k)) goal + goal.length - standF goal (pl.take (pl.length - k))) := rfl
  have hd := drop_run T pl k (by omega)
  have o1 : okF pl goal k = (goal.filter isStr).all fun x => decide (x ∈ pl.take (pl.length - k)) := rfl
  have hll : (pl.take (pl.length - k)).length ≤ T := by rw [List.length_take]; omega
  unfold planW
  generalize pl.take (pl.length - k) = left at *
  have hcl := clr_run T (cellsF goal left) []
  rw [List.nil_append, List.nil_append, cellsF_lbs] at hcl
  have hlen := clr_len (cellsF goal left) fun c hc => (ht c hc).1
  have hcw := clr_ok (cellsF goal left) (by have := congrArg List.length (cellsF_lbs goal left); unfold lbs at this; rw [List.length_map] at this; omega)
  have hsp := spare_cells goal left
  have hff : ((cellsF goal left).filter keepC).filter fixedC = (cellsF goal left).filter fixedC := by
    rw [List.filter_filter]
    refine List.filter_congr fun c _ => ?_
    obtain ⟨x, u⟩ := c
    cases u <;> rfl
  have hfl : lbs (((cellsF goal left).filter keepC).filter fixedC) = goal.take (standF goal left) := by rw [hff, cellsF_fixed]
  obtain ⟨vs, g1, g2, g3, g4, g5⟩ := grow_facts T hT (goal.drop (standF goal left)) (List.replicate k .d ++ clrW (cellsF goal left)) ((cellsF goal left).filter keepC)
    (fun c hc q => by
      have := (List.mem_filter.mp hc).2
      unfold keepC at this
      rw [decide_eq_true q] at this
      cases this)
    (fun a => by
      have e : cntU .kept a ((cellsF goal left).filter keepC) = cntU .kept a (cellsF goal left) := by
        unfold cntU
        rw [List.countP_filter]
        refine List.countP_congr fun c _ => ?_
        constructor
        · intro z
          exact (Bool.and_eq_true_iff.mp z).1
        · intro z
          rw [Bool.and_eq_true_iff]
          refine ⟨z, ?_⟩
          rw [of_decide_eq_true z]
          rfl
      rw [e, cellsF_kept]
      exact Nat.min_le_right _ _)
    (fun a ha hs => by
      rw [o1, List.all_eq_true] at h2
      have hgm : a ∈ goal := List.mem_of_mem_drop ha
      have hm := of_decide_eq_true (h2 a (List.mem_filter.mpr ⟨hgm, hs⟩))
      have c0 : 0 < cntL left a := mem_cnt.mp hm
      have c1 := cnt_split a (cellsF goal left)
      rw [cellsF_lbs] at c1
      have c2 := cellsF_kept goal left a
      have c3 : 0 < cntL (goal.drop (standF goal left)) a := mem_cnt.mp ha
      by_cases z : 0 < cntL (lbs ((cellsF goal left).filter fixedC)) a
      · have hz := mem_cnt.mpr z
        rw [← hff] at hz
        obtain ⟨c, hc1, hc2⟩ := List.mem_map.mp hz
        exact List.mem_map.mpr ⟨c, (List.mem_filter.mp hc1).1, hc2⟩
      · have hk : 0 < cntU .kept a (cellsF goal left) := by omega
        obtain ⟨c, hc1, hc2⟩ := List.countP_pos_iff.mp hk
        have hc3 : c = (a, .kept) := of_decide_eq_true hc2
        subst hc3
        exact List.mem_map.mpr ⟨_, List.mem_filter.mpr ⟨hc1, rfl⟩, rfl⟩)
    (fun v hv' => hv v (List.mem_of_mem_drop hv')) (by rw [hfl, List.take_append_drop]; exact hg)
    (fun a s c hR hs => by
      have hlast := filter_last hs fun x hx => by
        unfold keepC
        rw [decide_eq_false (ht x hx).1]
        rfl
      intro hc
      subst hc
      have := (ht _ hlast).2 rfl
      rw [List.head?_drop] at hR
      exact this hR)
  rw [g1]
  rw [hfl, List.take_append_drop] at g4
  refine ⟨(hd.append hcl).append g4, ?_, fun w hw => ?_⟩
  · rw [List.length_append, List.length_append, List.length_replicate, g2, List.length_drop, hlen]
    have hs := (stand_sub goal left).1
    omega
  · rcases List.mem_append.mp hw with hw | hw
    · rcases List.mem_append.mp hw with hw | hw
      · rw [List.eq_of_mem_replicate hw]; trivial
      · exact hcw w hw
    · exact g3 w hw
end Wx

/-! ### part Za -/
set_option Elab.async false
set_option linter.all false
set_option maxRecDepth 100000
set_option maxHeartbeats 1000000
set_option autoImplicit false
/-! What a def gives back to be one's own: one object, or two lists; more rules for own lists; f-strings. -/
namespace Wx
open PySem L2
section
variable {c : Cy} {sl : List Slo} {nn n : Nat} {t u : TS} {te tb : TE} {K : PySem.W.Frag} {P : Po} {Ψ : Ow → Nat → Prop} {Φ : D → Nat → Prop}
/-! ## one object -/
structure W1 (c : Cy) (t : TS) (e : En) (Ψ : Ow → Nat → Prop) : Prop where
  run : ∀ (σ : St) (A : Addr → Prop) (H : Hp), Ok c A H σ e → ∀ Dn : Ends, (∀ (p : Addr) (H' : Hp) (w : Ow) (m : Nat), Ψ w m → Kp c σ e H H' → Good c m H' → (ownA σ e.sl p ∨ H p = none) → OwAt c.K (fun a => c.S0 a ∨ a = p) H' p w → Dn.rt (.ref p) H') → t Dn σ H
theorem w1_seq (h : Ws c t ⟨sl, nn⟩ ⟨fun e1 => W1 c u e1 Ψ, fun _ _ => False, fun _ => False, fun _ => False⟩) : W1 c (tSeq t u) ⟨sl, nn⟩ Ψ := ⟨fun σ A H o Dn fin =>
  h.run σ A H o { Dn with nx := u Dn } (fun σ1 A1 H1 e1 q kp w o1 => q.run σ1 A1 H1 o1 Dn fun p H2 w2 m q2 kp2 g2 ow t2 => fin p H2 w2 m q2 (kp.trans w kp2) g2 (ow.elim (w p) fun z => own_back (e1 := e1) o o1.good kp (.inr z)) t2)
    (fun _ _ _ _ z _ _ _ => z.elim) (fun _ _ _ _ z _ _ _ => z.elim) (fun _ _ _ _ z _ _ _ => z.elim)⟩
theorem w1_ret {i : Nat} {w : Ow} (hi : sl[i]? = some (.own w)) (h : Ψ w nn) : W1 c (tRet (tVar i)) ⟨sl, nn⟩ Ψ := ⟨fun σ A H o Dn fin => by
  obtain ⟨a, h1, h2, h3⟩ := o.own i w hi
  exact ⟨.ref a, h1, fin a H w nn h Kept.refl o.good (.inl ⟨i, w, hi, h1⟩) (h2.less fun b z => z.elim (fun z => o.sub b (.inl z)) fun z => by rw [z]; exact o.sub a (.inr ⟨i, w, hi, h1⟩))⟩⟩
def SpN {ι : Type} (K : PySem.W.Frag) (ar : ι → List D) (pre : ι → Nat → Prop) (post : ι → Nat → Ow → Nat → Prop) : Sp := fun vs H Q _ =>
  ∃ (z : ι) (c : Cy) (n : Nat), c.K = K ∧ Good c n H ∧ DXs c c.S0 H vs (ar z) ∧ pre z n ∧ ∀ (p : Addr) (H' : Hp) (w : Ow) (m : Nat), post z n w m → Ek c H H' → Good c m H' → H p = none → OwAt K (fun a => c.S0 a ∨ a = p) H' p w → Q (.ref p) H'
theorem sn_len {ι : Type} {K : PySem.W.Frag} {ar : ι → List D} {pre : ι → Nat → Prop} {post : ι → Nat → Ow → Nat → Prop} {m : Nat} (hl : ∀ x, (ar x).length = m) (vs : List V) (H : Hp) (Q : VK) (E : XK) (h : SpN K ar pre post vs H Q E) : vs.length = m := by
  obtain ⟨z, c, n, hK, g, x, hp, k⟩ := h
  rw [x.len, hl z]
theorem start_no {N : List Str} {vs : List V} {ds : List D} (a : Addr) : ¬ ownA (L2.start N vs) (Slo.of ds ++ List.replicate (N.length - ds.length) Slo.emp) a := fun ⟨i, es, y, _⟩ => by
  by_cases hi : i < ds.length
  · rw [List.getElem?_append_left (by unfold Slo.of; rw [List.length_map]; exact hi)] at y
    unfold Slo.of at y
    rw [List.getElem?_map, List.getElem?_eq_getElem hi] at y
    cases y
  · rw [List.getElem?_append_right (by unfold Slo.of; rw [List.length_map]; omega), List.getElem?_replicate] at y
    split at y <;> cases y
theorem body_n {ι : Type} {N : List Str} {ar : ι → List D} {pre : ι → Nat → Prop} {post : ι → Nat → Ow → Nat → Prop} (hnm : ∀ x, (ar x).all D.nm = true)
    (rd : ∀ (c : Cy) (n : Nat) (x : ι), c.K = K → pre x n → W1 c t ⟨Slo.of (ar x) ++ List.replicate (N.length - (ar x).length) .emp, n⟩ fun w m => post x n w m)
    (vs : List V) (H : Hp) (Q : VK) (E : XK) (h : SpN K ar pre post vs H Q E) : t { nx := fun _ H' => Q .non H', rt := Q } (L2.start N vs) H := by
  obtain ⟨z, c, n, hK, g, x, hp, k⟩ := h
  have o := start_ok (N := N) g x (hnm z)
  refine (rd c n z hK hp).run _ _ H o _ fun p H' w m q kp g' ow tt => ?_
  exact k p H' w m q (fun a u nn z => kp a u (fun y => y.elim nn fun y => start_no a y) z) g' (ow.resolve_left (start_no p)) (by rw [← hK]; exact tt)
theorem wn_callN {ι : Type} {ar : ι → List D} {pre : ι → Nat → Prop} {post : ι → Nat → Ow → Nat → Prop} {E : XK} {ta : TA} (hK : K = c.K) (h : Wa c ta ⟨sl, nn⟩ fun ds n => ds.all argOk = true ∧ ∃ z, ds.map arg = ar z ∧ pre z n ∧ ∀ w m, post z n w m → Ψ w m) : Wn c (tCall (SpN K ar pre post) [] E ta) ⟨sl, nn⟩ Ψ := ⟨fun σ A H o Q k => by
  subst hK
  refine h.run σ A H o _ fun vs H1 ds n p e1 g1 x => ?_
  obtain ⟨p1, z, p2, p3, p4⟩ := p
  have o1 := o.keep e1 g1
  rw [List.append_nil]
  exact ⟨z, c.at_ A o1.at_.k, n, rfl, ⟨o1.al, g1.kl⟩, by rw [← p2]; exact dxs_arg o1.at_ p1 x, p3, fun r H' w m q ek g' hr tt =>
    k r H' w m (p4 w m q) (e1.trans ek) ⟨fun b y => g'.al b (o.sub b (.inl y)), g'.kl⟩ (fresh_of e1 g1 hr) tt⟩⟩
/-! ## two lists -/
abbrev AB (S : Addr → Prop) (a b : Addr) : Addr → Prop := fun x => (S x ∨ x = a) ∨ x = b
structure Pr2 (K : PySem.W.Frag) (S : Addr → Prop) (H : Hp) (t a b : Addr) (ds es : List PyData) : Prop where
  tp : H t = some (.tup [.ref a, .ref b])
  ne : a ≠ b
  l1 : ∃ xs, H a = some (.lst xs) ∧ DaL K (AB S a b) H xs ds
  l2 : ∃ xs, H b = some (.lst xs) ∧ DaL K (AB S a b) H xs es
structure W2 (c : Cy) (t : TS) (e : En) (Ψ : List PyData → List PyData → Nat → Prop) : Prop where
  run : ∀ (σ : St) (A : Addr → Prop) (H : Hp), Ok c A H σ e → ∀ Dn : Ends, (∀ (r a b : Addr) (H' : Hp) (ds es : List PyData) (m : Nat), Ψ ds es m → Kp c σ e H H' → Good c m H' → (ownA σ e.sl a ∨ H a = none) → (ownA σ e.sl b ∨ H b = none) → Pr2 c.K c.S0 H' r a b ds es → Dn.rt (.ref r) H') → t Dn σ H
theorem w2_seq {Ψ : List PyData → List PyData → Nat → Prop} (h : Ws c t ⟨sl, nn⟩ ⟨fun e1 => W2 c u e1 Ψ, fun _ _ => False, fun _ => False, fun _ => False⟩) : W2 c (tSeq t u) ⟨sl, nn⟩ Ψ := ⟨fun σ A H o Dn fin =>
  h.run σ A H o { Dn with nx := u Dn } (fun σ1 A1 H1 e1 q kp w o1 => q.run σ1 A1 H1 o1 Dn fun r a b H2 ds es m q2 kp2 g2 ow ow2 t2 => fin r a b H2 ds es m q2 (kp.trans w kp2) g2 (ow.elim (w a) fun z => own_back (e1 := e1) o o1.good kp (.inr z)) (ow2.elim (w b) fun z => own_back (e1 := e1) o o1.good kp (.inr z)) t2)
    (fun _ _ _ _ z _ _ _ => z.elim) (fun _ _ _ _ z _ _ _ => z.elim) (fun _ _ _ _ z _ _ _ => z.elim)⟩
theorem w2_ret {Ψ : List PyData → List PyData → Nat → Prop} {i j : Nat} {ds es : List PyData} (hi : sl[i]? = some (.own (.lst ds))) (hj : sl[j]? = some (.own (.lst es))) (hij : i ≠ j) (h : Ψ ds es nn) : W2 c (tRet (tTup (tCons (tVar i) (tCons (tVar j) tNil)))) ⟨sl, nn⟩ Ψ := ⟨fun σ A H o Dn fin => by
  obtain ⟨a, h1, ⟨xs, h2, t2⟩, h3⟩ := o.own i _ hi
  obtain ⟨b, k1, ⟨ys, k2, u2⟩, k3⟩ := o.own j _ hj
  have ne : a ≠ b := fun q => hij (o.sep i j _ _ a hi hj h1 (by rw [q]; exact k1))
  have aA : A a := o.sub a (.inr ⟨i, _, hi, h1⟩)
  have bA : A b := o.sub b (.inr ⟨j, _, hj, k1⟩)
  refine ⟨.ref a, h1, .ref b, k1, by show 2 ≤ sizeLine; decide, fun r hr => ?_⟩
  have ra : a ≠ r := fun q => by rw [q, hr] at h2; cases h2
  have rb : b ≠ r := fun q => by rw [q, hr] at k2; cases k2
  have sub : ∀ x, AB c.S0 a b x → A x := fun x z => z.elim (fun z => z.elim (fun z => o.sub x (.inl z)) fun z => by rw [z]; exact aA) fun z => by rw [z]; exact bA
  have e3 : Ek c H (upd H r (.tup [.ref a, .ref b])) := Ek.new hr
  have kk : Kept (AB c.S0 a b) H (upd H r (.tup [.ref a, .ref b])) := e3.kept fun x z => .inl (.inl (c.hk x z))
  exact fin r a b _ ds es nn h (Kp.ek e3) (o.good.new hr) (.inl ⟨i, _, hi, h1⟩) (.inl ⟨j, _, hj, k1⟩) ⟨upd_same, ne, ⟨xs, by rw [upd_ne ra]; exact h2, (t2.less sub).keep kk⟩, ⟨ys, by rw [upd_ne rb]; exact k2, (u2.less sub).keep kk⟩⟩⟩
def Sp2 {ι : Type} (K : PySem.W.Frag) (ar : ι → List D) (pre : ι → Nat → Prop) (post : ι → Nat → List PyData → List PyData → Nat → Prop) : Sp := fun vs H Q _ =>
  ∃ (z : ι) (c : Cy) (n : Nat), c.K = K ∧ Good c n H ∧ DXs c c.S0 H vs (ar z) ∧ pre z n ∧ ∀ (r a b : Addr) (H' : Hp) (ds es : List PyData) (m : Nat), post z n ds es m → Ek c H H' → Good c m H' → H a = none → H b = none → Pr2 K c.S0 H' r a b ds es → Q (.ref r) H'
theorem s2_len {ι : Type} {K : PySem.W.Frag} {ar : ι → List D} {pre : ι → Nat → Prop} {post : ι → Nat → List PyData → List PyData → Nat → Prop} {m : Nat} (hl : ∀ x, (ar x).length = m) (vs : List V) (H : Hp) (Q : VK) (E : XK) (h : Sp2 K ar pre post vs H Q E) : vs.length = m := by
  obtain ⟨z, c, n, hK, g, x, hp, k⟩ := h
  rw [x.len, hl z]
theorem body_2 {ι : Type} {N : List Str} {ar : ι → List D} {pre : ι → Nat → Prop} {post : ι → Nat → List PyData → List PyData → Nat → Prop} (hnm : ∀ x, (ar x).all D.nm = true)
    (rd : ∀ (c : Cy) (n : Nat) (x : ι), c.K = K → pre x n → W2 c t ⟨Slo.of (ar x) ++ List.replicate (N.length - (ar x).length) .emp, n⟩ fun ds es m => post x n ds es m)
    (vs : List V) (H : Hp) (Q : VK) (E : XK) (h : Sp2 K ar pre post vs H Q E) : t { nx := fun _ H' => Q .non H', rt := Q } (L2.start N vs) H := by
  obtain ⟨z, c, n, hK, g, x, hp, k⟩ := h
  have o := start_ok (N := N) g x (hnm z)
  refine (rd c n z hK hp).run _ _ H o _ fun r a b H' ds es m q kp g' ow ow2 tt => ?_
  exact k r a b H' ds es m q (fun a u nn z => kp a u (fun y => y.elim nn fun y => start_no a y) z) g' (ow.resolve_left (start_no a)) (ow2.resolve_left (start_no b)) (by rw [← hK]; exact tt)
/-- an object that is there, kept apart, goes to a name: it is one's own -/
theorem Ok.set_in {A : Addr → Prop} {H : Hp} {σ : St} {e : En} {p : Addr} {w : Ow} (o : Ok c A H σ e) (pA : A p) (nS : ¬ c.S0 p) (t : OwAt c.K A H p w) (no : ∀ (j : Nat) (es : Ow), e.sl[j]? = some (Slo.own es) → σ[j]? ≠ some (some (V.ref p))) {i : Nat} (hi : i < e.sl.length) :
    Ok c A H (σ.set i (some (.ref p))) ⟨e.sl.set i (.own w), e.n⟩ := by
  refine ⟨by rw [List.length_set, List.length_set]; exact o.len, o.good, fun a z => ?_, o.al, fun j u h => ?_, fun j es h => ?_, fun j l es fs a h1 h2 h3 h4 => ?_⟩
  · rcases z with z | ⟨j, es, h1, h3⟩
    · exact o.sub a (.inl z)
    · by_cases q : i = j
      · subst q
        rw [List.getElem?_set_self (by rw [o.len]; exact hi)] at h3
        cases h3
        exact pA
      · rw [List.getElem?_set_ne q] at h3
        have h1' : e.sl[j]? = some (Slo.own es) := by rw [← List.getElem?_set_ne q]; exact h1
        exact o.sub a (.inr ⟨j, es, h1', h3⟩)
  · by_cases q : i = j
    · subst q
      have h' : (e.sl.set i (Slo.own w))[i]? = some (Slo.val u) := h
      rw [List.getElem?_set_self hi] at h'
      cases h'
    · have h' : e.sl[j]? = some (Slo.val u) := by rw [← List.getElem?_set_ne q]; exact h
      rw [List.getElem?_set_ne q]
      exact o.val j u h'
  · by_cases q : i = j
    · subst q
      have h' : (e.sl.set i (Slo.own w))[i]? = some (Slo.own es) := h
      rw [List.getElem?_set_self hi] at h'
      cases h'
      exact ⟨p, by rw [List.getElem?_set_self (by rw [o.len]; exact hi)], t, nS⟩
    · have h' : e.sl[j]? = some (Slo.own es) := by rw [← List.getElem?_set_ne q]; exact h
      rw [List.getElem?_set_ne q]
      exact o.own j es h'
  · have f : ∀ {m : Nat} {gs : Ow}, (e.sl.set i (Slo.own w))[m]? = some (Slo.own gs) → i ≠ m → e.sl[m]? = some (Slo.own gs) := fun {m gs} h q => by rw [← List.getElem?_set_ne q]; exact h
    by_cases q1 : i = j
    · by_cases q2 : i = l
      · rw [← q1, ← q2]
      · subst q1
        rw [List.getElem?_set_self (by rw [o.len]; exact hi)] at h3
        rw [List.getElem?_set_ne q2] at h4
        cases h3
        exact absurd h4 (no l fs (f h2 q2))
    · by_cases q2 : i = l
      · subst q2
        rw [List.getElem?_set_self (by rw [o.len]; exact hi)] at h4
        rw [List.getElem?_set_ne q1] at h3
        cases h4
        exact absurd h3 (no j es (f h1 q1))
      · rw [List.getElem?_set_ne q1] at h3
        rw [List.getElem?_set_ne q2] at h4
        exact o.sep j l es fs a (f h1 q1) (f h2 q2) h3 h4
theorem Ok.wide2 {A : Addr → Prop} {H H' : Hp} {σ : St} {m : Nat} {a b : Addr} (o : Ok c A H σ ⟨sl, nn⟩) (k : Ek c H H') (g : Good c m H') (ha : H a = none) (hb : H b = none) (ha' : H' a ≠ none) (hb' : H' b ≠ none) : Ok c (AB A a b) H' σ ⟨sl, m⟩ := by
  have kA : ∀ x, c.k = some x → AB A a b x := fun x z => .inl (.inl (o.k x z))
  refine ⟨o.len, g, fun x z => .inl (.inl (o.sub x z)), fun x z => ?_, fun i d h => ?_, fun i w h => ?_, o.sep⟩
  · rcases z with (z | z) | z
    · exact (o.keep k g).al x z
    · rw [z]; exact ha'
    · rw [z]; exact hb'
  · obtain ⟨nm, v, h1, h2⟩ := o.val i d h
    exact ⟨nm, v, h1, ((h2.apart ha).apart hb).keep k kA⟩
  · obtain ⟨x, h1, h2, h3⟩ := o.own i w h
    exact ⟨x, h1, ((h2.apart ha).apart hb).keep (k.kept kA) fun u r => k x u (fun z => h3 (c.hk x z)) r, h3⟩
/-- i, j = f(..), f gives back two own lists -/
theorem ws_two {ι : Type} {ar : ι → List D} {pre : ι → Nat → Prop} {post : ι → Nat → List PyData → List PyData → Nat → Prop} {E : XK} {ta : TA} {i j : Nat} (hK : K = c.K) (hi : i < sl.length) (hj : j < sl.length) (hij : i ≠ j)
    (h : Wa c ta ⟨sl, nn⟩ fun ds n => ds.all argOk = true ∧ ∃ z, ds.map arg = ar z ∧ pre z n ∧ ∀ xs ys m, post z n xs ys m → P.nx ⟨(sl.set i (.own (.lst xs))).set j (.own (.lst ys)), m⟩) :
    Ws c (tAsg (tCall (Sp2 K ar pre post) [] E ta) (gTup K 2 (gCons (gName i) (gCons (gName j) gNil)))) ⟨sl, nn⟩ P := ⟨fun σ A H o Dn nx _ _ _ => by
  subst hK
  refine h.run σ A H o _ fun vs H1 ds n p e1 g1 x => ?_
  obtain ⟨p1, z, p2, p3, p4⟩ := p
  have o1 := o.keep e1 g1
  rw [List.append_nil]
  refine ⟨z, c.at_ A o1.at_.k, n, rfl, ⟨o1.al, g1.kl⟩, by rw [← p2]; exact dxs_arg o1.at_ p1 x, p3, fun r a b H' xs ys m q ek g' ha hb tt => ?_⟩
  have gc : Good c m H' := ⟨fun b y => g'.al b (o.sub b (.inl y)), g'.kl⟩
  obtain ⟨us, ua, ut⟩ := tt.l1
  obtain ⟨ws, wb, wt⟩ := tt.l2
  have o2 := o1.wide2 (m := m) ek gc ha hb (by rw [ua]; exact fun z => nomatch z) (by rw [wb]; exact fun z => nomatch z)
  have noA : ∀ p, H1 p = none → ∀ (j : Nat) (es : Ow), sl[j]? = some (Slo.own es) → σ[j]? ≠ some (some (V.ref p)) := fun p hp j es z1 z2 => by
    obtain ⟨y, y1, y2, _⟩ := o1.own j es z1
    rw [z2] at y1; cases y1
    exact y2.al hp
  have nSa : ¬ c.S0 a := fun z => o1.good.al a z ha
  have nSb : ¬ c.S0 b := fun z => o1.good.al b z hb
  have o3 := o2.set_in (i := i) (w := .lst xs) (.inl (.inr rfl)) nSa ⟨us, ua, ut⟩ (noA a ha) hi
  have o4 := o3.set_in (i := j) (w := .lst ys) (p := b) (.inr rfl) nSb ⟨ws, wb, wt⟩ (fun l es z1 z2 => by
    by_cases q : i = l
    · subst q
      rw [List.getElem?_set_self (by rw [o.len]; exact hi)] at z2
      cases z2
      exact tt.ne rfl
    · rw [List.getElem?_set_ne q] at z2
      have z1' : sl[l]? = some (Slo.own es) := by rw [← List.getElem?_set_ne q]; exact z1
      exact noA b hb l es z1' z2) (by show j < (sl.set i _).length; rw [List.length_set]; exact hj)
  have own : ∀ y, ownA ((σ.set i (some (.ref a))).set j (some (.ref b))) ((sl.set i (.own (.lst xs))).set j (.own (.lst ys))) y → ownA σ sl y ∨ H y = none := fun y ⟨l, es, z1, z2⟩ => by
    by_cases q : j = l
    · subst q
      rw [List.getElem?_set_self (by rw [List.length_set, o.len]; exact hj)] at z2
      cases z2
      exact .inr (fresh_of e1 g1 hb)
    · rw [List.getElem?_set_ne q] at z1 z2
      by_cases q2 : i = l
      · subst q2
        rw [List.getElem?_set_self (by rw [o.len]; exact hi)] at z2
        cases z2
        exact .inr (fresh_of e1 g1 ha)
      · rw [List.getElem?_set_ne q2] at z1 z2
        exact .inl ⟨l, es, z1, z2⟩
  exact ⟨r, [.ref a, .ref b], rfl, .inl (.inl tt.tp), rfl, .ref a, [.ref b], rfl, ⟨.ref b, [], rfl, ⟨rfl, nx _ _ H' ⟨(sl.set i (.own (.lst xs))).set j (.own (.lst ys)), m⟩ (p4 xs ys m q) (Kp.ek (e1.trans ek)) own o4⟩⟩⟩⟩
/-! ## own lists -/
theorem ws_popD {i : Nat} {ds : List PyData} (hK : K = c.K) (hi : sl[i]? = some (.own (.lst ds))) (h : Wp c te ⟨sl, nn⟩ fun d n => ∃ k : Nat, d = .py (.int (k : Int)) ∧ k < ds.length ∧ k < 2 ^ 62 ∧ P.nx ⟨sl.set i (.own (.lst (ds.eraseIdx k))), n⟩) :
    Ws c (tDrop (tBM K "list" rPopAt (tVar i) (tCons te tNil))) ⟨sl, nn⟩ P := ⟨fun σ A H o Dn nx _ _ _ => by
  subst hK
  obtain ⟨a, h1, ⟨xs, h2, h3⟩, h4⟩ := o.own i _ hi
  refine ⟨.ref a, h1, .inl ⟨rfl, xs, SqL.of h2⟩, h.run σ A H o _ fun v H1 d n p e1 g1 x => ?_⟩
  obtain ⟨k, rfl, hk, hb, q⟩ := p
  cases Da.int_eq x
  have o1 := o.keep e1 g1
  have nk : c.k ≠ some a := fun z => h4 (c.hk a z)
  have ha : H1 a = some (.lst xs) := e1 a _ nk h2
  have aA : A a := o.sub a (.inr ⟨i, _, hi, h1⟩)
  have lx : k < xs.length := by rw [h3.len]; exact hk
  have k2 : Kept A H1 (upd H1 a (.lst (xs.eraseIdx k))) := fun b u nb q => by rw [upd_ne fun z => nb (by rw [z]; exact aA)]; exact q
  obtain ⟨o2, kp, bk⟩ := o1.put (w' := .lst (ds.eraseIdx k)) (u := .lst (xs.eraseIdx k)) hi h1 h4 g1 ⟨_, upd_same, ((h3.keep (Ek.kept e1 o.k)).eraseIdx k).keep k2⟩
  refine ⟨a, xs, (k : Int), k, xs[k], rfl, rfl, ha, by omega, by omega, ?_, List.getElem?_eq_getElem lx, nx σ A _ ⟨sl.set i (.own (.lst (ds.eraseIdx k))), n⟩ q (fun b u nb w => kp b u nb (e1 b u (fun z => nb (.inl z)) w)) (fun b z => .inl (bk b z)) o2⟩
  have e : ¬ ((k : Int) < 0) := by omega
  unfold seqIndex?
  simp [lx, e]⟩
theorem ws_ext {i : Nat} {ds : List PyData} (hK : K = c.K) (hi : sl[i]? = some (.own (.lst ds))) (h : Wn c te ⟨sl, nn⟩ fun w n => ∃ es, w = .lst es ∧ ds.length + es.length ≤ sizeLine ∧ P.nx ⟨sl.set i (.own (.lst (ds ++ es))), n⟩) :
    Ws c (tDrop (tBM K "list" rExtend (tVar i) (tCons te tNil))) ⟨sl, nn⟩ P := ⟨fun σ A H o Dn nx _ _ _ => by
  subst hK
  obtain ⟨a, h1, ⟨xs, h2, h3⟩, h4⟩ := o.own i _ hi
  refine ⟨.ref a, h1, .inl ⟨rfl, xs, SqL.of h2⟩, h.run σ A H o _ fun p H1 w n q e1 g1 hp t => ?_⟩
  obtain ⟨es, rfl, hz, q⟩ := q
  obtain ⟨ys, r2, y2⟩ := t
  have o1 := o.keep e1 g1
  have nk : c.k ≠ some a := fun z => h4 (c.hk a z)
  have ha : H1 a = some (.lst xs) := e1 a _ nk h2
  have aA : A a := o.sub a (.inr ⟨i, _, hi, h1⟩)
  have y3 : DaL c.K A H1 ys es := y2.less fun a z => .inl z
  have k2 : Kept A H1 (upd H1 a (.lst (xs ++ ys))) := fun b u nb q => by rw [upd_ne fun z => nb (by rw [z]; exact aA)]; exact q
  obtain ⟨o2, kp, bk⟩ := o1.put (w' := .lst (ds ++ es)) (u := .lst (xs ++ ys)) hi h1 h4 g1 ⟨_, upd_same, ((h3.keep (Ek.kept e1 o.k)).append y3).keep k2⟩
  exact ⟨a, p, xs, ys, rfl, rfl, ha, r2, by rw [h3.len, y2.len]; exact hz, nx σ A _ ⟨sl.set i (.own (.lst (ds ++ es))), n⟩ q (fun b u nb w => kp b u nb (e1 b u (fun z => nb (.inl z)) w)) (fun b z => .inl (bk b z)) o2⟩⟩
theorem wn_catNO {j : Nat} {es : List PyData} (hj : sl[j]? = some (.own (.lst es))) (h : Wn c te ⟨sl, nn⟩ fun w n => ∃ ds, w = .lst ds ∧ ds.length + es.length ≤ sizeLine ∧ Ψ (.lst (ds ++ es)) n) : Wn c (tOp (rADD K) te (tVar j)) ⟨sl, nn⟩ Ψ := ⟨fun σ A H o Q k => by
  refine h.run σ A H o _ fun p1 H1 w n q e1 g1 f1 t1 => ?_
  obtain ⟨ds, rfl, hz, q⟩ := q
  obtain ⟨xs, r1, y1⟩ := t1
  have o1 := o.keep e1 g1
  obtain ⟨b, k1, ⟨ys, k2, k3⟩, _⟩ := o1.own j _ hj
  have d1 : DaL c.K A H1 xs ds := y1.less fun a z => .inl z
  refine ⟨.ref b, k1, .inr (.inr (.inl ⟨p1, b, xs, ys, rfl, rfl, r1, k2, by rw [d1.len, k3.len]; exact hz, fun p hp => ?_⟩))⟩
  exact k p _ _ n q (e1.trans (Ek.new hp)) (g1.new hp) (fresh_of e1 g1 hp) ⟨xs ++ ys, upd_same, lay (d1.append k3) hp⟩⟩
theorem wn_if {tt : TT} (h : Wt c tt ⟨sl, nn⟩ fun b n => (b = true → Wn c te ⟨sl, n⟩ Ψ) ∧ (b = false → Wn c tb ⟨sl, n⟩ Ψ)) : Wn c (tIf tt te tb) ⟨sl, nn⟩ Ψ := ⟨fun σ A H o Q k => by
  refine h.run σ A H o _ fun b H1 n p e1 g1 => ?_
  have o1 := o.keep e1 g1
  cases b with
  | true => exact iteT ((p.1 rfl).run σ A H1 o1 Q fun r H2 w m q e2 g2 hr t => k r H2 w m q (e1.trans e2) g2 (fresh_of e1 g1 hr) t)
  | false => exact iteF ((p.2 rfl).run σ A H1 o1 Q fun r H2 w m q e2 g2 hr t => k r H2 w m q (e1.trans e2) g2 (fresh_of e1 g1 hr) t)⟩
/-- i, j = two new objects -/
def tParOO (i j : Nat) (ta : TA) : TS := tPar i j ta
theorem ps_parOO {X : Cx} {st : Stmt} {i j : Nat} {ta : TA} (h : PS X st (tPar i j ta)) : PS X st (tParOO i j ta) := h
theorem ws_parOO {i j : Nat} (h : Wn c te ⟨sl, nn⟩ fun w m => Wn c tb ⟨sl, m⟩ fun w2 n => P.nx ⟨(sl.set i (.own w)).set j (.own w2), n⟩) (hi : i < sl.length) (hj : j < sl.length) (hij : i ≠ j) :
    Ws c (tParOO i j (tCons te (tCons tb tNil))) ⟨sl, nn⟩ P := ⟨fun σ A H o Dn nx _ _ _ => by
  refine h.run σ A H o _ fun p H1 w m q e1 g1 hp t => ?_
  have p2 := o.set_own e1 g1 hp t hi
  have o1 : Ok c (fun a => A a ∨ a = p) H1 σ ⟨sl, m⟩ :=
    ⟨o.len, g1, fun a z => .inl (o.sub a z), p2.al, fun j u h => by
      obtain ⟨nm, w, h3, h4⟩ := o.val j u h
      exact ⟨nm, w, h3, (h4.apart hp).keep e1 fun a z => .inl (o.k a z)⟩, fun j es h => by
      obtain ⟨b, h3, h5, h6⟩ := o.own j es h
      exact ⟨b, h3, (h5.apart hp).keep (Ek.kept e1 fun a z => .inl (o.k a z)) fun u r => e1 b u (fun z => h6 (c.hk b z)) r, h6⟩, o.sep⟩
  refine q.run σ _ H1 o1 _ fun r H2 w2 n q e2 g2 hr t2 => ?_
  have p3 := p2.set_own (i := j) e2 g2 hr t2 (by show j < (sl.set i _).length; rw [List.length_set]; exact hj)
  refine ⟨.ref p, .ref r, rfl, nx _ _ _ ⟨(sl.set i (.own w)).set j (.own w2), n⟩ q (Kp.ek (e1.trans e2)) (fun a z => ?_) p3⟩
  obtain ⟨k, es, h3, h4⟩ := z
  by_cases rj : j = k
  · subst rj
    rw [List.getElem?_set_self (by rw [List.length_set, o.len]; exact hj)] at h4
    cases h4
    exact .inr (fresh_of e1 g1 hr)
  · rw [List.getElem?_set_ne rj] at h4
    have h3' : (sl.set i (.own w))[k]? = some (Slo.own es) := by rw [← List.getElem?_set_ne rj]; exact h3
    by_cases ri : i = k
    · subst ri
      rw [List.getElem?_set_self (by rw [o.len]; exact hi)] at h4
      cases h4
      exact .inr hp
    · rw [List.getElem?_set_ne ri] at h4 h3'
      exact .inl ⟨k, es, h3', h4⟩⟩
/-! ## f-strings -/
def tF2 (s : Str) (te : TE) : TE := fun σ H Q => tJs [tC (.str s), tFmt te] Str.empty σ H fun out H1 => Q (.str out) H1
theorem pe_f2 {X : Cx} {s : Str} {j : Nat} {e : Expr} {p1 p2 p3 : Pos} (he : PE X e te) : PE X (.JoinedStr [.Constant (.str s) j p1, .FormattedValue e (-1) none p2] p3) (tF2 s te) := pe_joined (.cons pe_str (.cons (pe_fmt he) .nil))
theorem wp_f2 {s : Str} (hl : (Str.empty ++ s).length ≤ sizeLine) (h : Wp c te ⟨sl, nn⟩ fun d n => ∃ i : Int, d = .py (.int i) ∧ i.natAbs.log2 < 1920 ∧ (Str.empty ++ s ++ (toString i : Str)).length ≤ sizeLine ∧ Φ (.py (.str (Str.empty ++ s ++ (toString i : Str)))) n) : Wp c (tF2 s te) ⟨sl, nn⟩ Φ := ⟨fun σ A H o Q k =>
  ⟨s, rfl, hl, h.run σ A H o _ fun v H1 d n p e1 g1 x => by
    obtain ⟨i, rfl, h1, h3, h4⟩ := p
    cases Da.int_eq x
    exact .inr ⟨i, rfl, h1, _, rfl, h3, k _ H1 _ n h4 e1 g1 (.str _)⟩⟩⟩
end
end Wx

/-! ### part Zb -/
set_option Elab.async false
set_option linter.all false
set_option maxRecDepth 100000
set_option maxHeartbeats 1000000
set_option autoImplicit false
/-! What the walks of plans ask of plain lists. -/
namespace Wx
open PySem L2
theorem fixN_len (goal pl : List Key) : ∀ i, i ≤ pl.length → (fixN goal pl i).length = standF goal (pl.take i)
  | 0, _ => rfl
  | i + 1, h => by
    have ih := fixN_len goal pl i (by omega)
    obtain ⟨a, ha⟩ : ∃ a, pl[i]? = some a := ⟨_, List.getElem?_eq_getElem (by omega)⟩
    have ts : pl.take (i + 1) = pl.take i ++ [a] := by rw [List.take_add_one, ha]; rfl
    rw [ts, stand_snoc]
    show (fixN goal pl i ++ if fixB goal pl i = true then [i] else []).length = _
    unfold fixB
    rw [ha, List.length_append, ih]
    by_cases q : goal[standF goal (pl.take i)]? = some a
    · rw [decide_eq_true q, if_pos rfl, if_pos q]; rfl
    · rw [decide_eq_false q, if_neg (fun z => nomatch z), if_neg q]; rfl
theorem fixN_get (goal pl : List Key) : ∀ i : Nat, i ≤ pl.length → ∀ j p : Nat, (fixN goal pl i)[j]? = some p → p < i ∧ pl[p]? = goal[j]?
  | 0, _, j, p, h => by simp [fixN] at h
  | i + 1, hi, j, p, h => by
    have ih := fixN_get goal pl i (by omega)
    have hl := fixN_len goal pl i (by omega)
    have h' : (fixN goal pl i ++ if fixB goal pl i = true then [i] else [])[j]? = some p := h
    by_cases q : fixB goal pl i = true
    · rw [if_pos q] at h'
      by_cases l : j < (fixN goal pl i).length
      · rw [List.getElem?_append_left l] at h'
        have := ih j p h'
        exact ⟨by omega, this.2⟩
      · rw [List.getElem?_append_right (by omega)] at h'
        have e : j - (fixN goal pl i).length = 0 := by
          by_cases z : j - (fixN goal pl i).length = 0
          · exact z
          · rw [List.getElem?_eq_none (by simp; omega)] at h'; cases h'
        rw [e] at h'
        have hp : p = i := by simpa using h'.symm
        have q' := of_decide_eq_true q
        refine ⟨by omega, ?_⟩
        rw [hp, ← q', show j = standF goal (pl.take i) by omega]
    · rw [if_neg q, List.append_nil] at h'
      have := ih j p h'
      exact ⟨by omega, this.2⟩
theorem fixN_mem (goal pl : List Key) (p : Nat) : ∀ i, p ∈ fixN goal pl i ↔ p < i ∧ fixB goal pl p = true
  | 0 => by simp [fixN]
  | i + 1 => by
    have ih := fixN_mem goal pl p i
    show p ∈ (fixN goal pl i ++ if fixB goal pl i = true then [i] else []) ↔ _
    rw [List.mem_append, ih]
    by_cases q : fixB goal pl i = true
    · rw [if_pos q, List.mem_singleton]
      constructor
      · rintro (h | h)
        · exact ⟨by omega, h.2⟩
        · exact ⟨by omega, by rw [h]; exact q⟩
      · rintro ⟨h1, h2⟩
        by_cases e : p = i
        · exact .inr e
        · exact .inl ⟨by omega, h2⟩
    · rw [if_neg q]
      constructor
      · rintro (h | h)
        · exact ⟨by omega, h.2⟩
        · cases h
      · rintro ⟨h1, h2⟩
        by_cases e : p = i
        · rw [e] at h2; exact absurd h2 q
        · exact .inl ⟨by omega, h2⟩
theorem cnt_put (xs : List (Key × Int)) (a k : Key) (v : Int) : cnt (putI xs a v) k = if k = a then v else cnt xs k := by
  unfold cnt
  rw [getI_put]
  by_cases e : k = a
  · rw [if_pos e, if_pos e]; rfl
  · rw [if_neg e, if_neg e]
theorem isSome_put (xs : List (Key × Int)) (a k : Key) (v : Int) (h : (getI xs k).isSome = true) : (getI (putI xs a v) k).isSome = true := by
  rw [getI_put]
  by_cases e : k = a
  · rw [if_pos e]; rfl
  · rw [if_neg e]; exact h
theorem tal_some {l : List Key} {k : Key} (h : k ∈ l) : (getI (tal l) k).isSome = true := by
  have h1 := cnt_tal k l
  have h2 : 0 < cntL l k := mem_cnt.mp h
  unfold cnt at h1
  cases q : getI (tal l) k with
  | none => rw [q] at h1; have : (0 : Int) = cntL l k := h1; omega
  | some v => rfl
def Use.tx : Use → Str
  | .fixed => Str.ofString "fixed"
  | .kept => Str.ofString "kept"
  | .spare => Str.ofString "spare"
def cellP (c : Cell) : PyData := .tuple [lab c.1, .str c.2.tx]
theorem use_tx_eq (u v : Use) : decide (u.tx = v.tx) = decide (u = v) := by cases u <;> cases v <;> decide +kernel
theorem use_ok (u : Use) : PyData.strOk u.tx = true := by cases u <;> decide +kernel
theorem cells_len (cs : List Cell) : (cs.map cellP).length = cs.length := List.length_map _
theorem cells_at {cs : List Cell} {i : Nat} {c : Cell} (h : cs[i]? = some c) : atI (cs.map cellP) (i : Int) = some (cellP c) := atI_nat (by rw [List.getElem?_map, h] <;> rfl)
/-! ## texts -/
theorem app_sg (x y : List Nat) : (sg x ++ sg y : Str) = sg (x ++ y) := by
  refine congrArg Str.mk ?_
  show x.toArray ++ y.toArray = _
  simp
theorem empty_sg : Str.empty = sg [] := rfl
theorem txN_sg' (n : Nat) : (toString ((n : Nat) : Int) : Str) = sg (TL.numL n) := txN_sg n
theorem fr_tx (n : Nat) : (Str.empty ++ Str.ofString "r" ++ (toString ((n : Nat) : Int) : Str)) = (Wd.r n).tx := by
  rw [txt_r, empty_sg, app_sg, txN_sg', app_sg]
  rfl
theorem fp_tx (n : Nat) : (Str.empty ++ Str.ofString "p" ++ (toString ((n : Nat) : Int) : Str)) = (Wd.p n).tx := by
  rw [txt_p, empty_sg, app_sg, txN_sg', app_sg]
  rfl
theorem str_lit_app (s t : String) : Str.ofString (s ++ t) = Str.ofString s ++ Str.ofString t := by
  have h : ∀ s : String, Str.ofString s = sg (s.toList.map Char.toNat) := fun s => by
    unfold sg
    rw [← cpsOfBytes_string]
    rfl
  rw [h, h, h, app_sg, String.toList_append, List.map_append]
theorem wc_tx (v : Int) : (toString v : Str) = (Wd.c v).tx := by
  unfold Wd.tx
  rw [wd_c]
  cases v with
  | ofNat n =>
    rw [if_neg (by have := Int.natCast_nonneg n; exact Int.not_lt.mpr this)]
    exact txN_sg' n
  | negSucc n =>
    rw [if_pos (Int.negSucc_lt_zero n)]
    have e : (toString (Int.negSucc n) : String) = "-" ++ toString (((n + 1 : Nat)) : Int) := rfl
    rw [e, str_lit_app]
    rw [show (Str.ofString (toString (((n + 1 : Nat)) : Int)) : Str) = sg (TL.numL (n + 1)) from txN_sg' (n + 1), show Str.ofString "-" = sg [45] by decide +kernel, app_sg]
    rfl
/-! ## growing, seen from the walk -/
theorem next_mem (cs : List Cell) (a : Key) : (∀ c ∈ (nextC cs a).2, c ∈ cs ∨ c = (a, .fixed)) ∧ (nextC cs a).2.length ≤ cs.length + 1 := by
  unfold nextC
  cases dep (isK a) cs with
  | some d =>
    dsimp only
    refine ⟨fun c hc => ?_, ?_⟩
    · rcases List.mem_append.mp hc with hc | hc
      · exact .inl (List.mem_of_mem_eraseIdx hc)
      · exact .inr (List.mem_singleton.mp hc)
    · rw [List.length_append]
      have := List.length_eraseIdx_le cs (cs.length - 1 - d)
      simp only [List.length_singleton]
      omega
  | none =>
    dsimp only
    refine ⟨fun c hc => ?_, by rw [List.length_append]; exact Nat.le_refl _⟩
    rcases List.mem_append.mp hc with hc | hc
    · exact .inl hc
    · exact .inr (List.mem_singleton.mp hc)
theorem next_lbs (cs : List Cell) (a : Key) (x : Key) (h : x ∈ lbs cs) : x ∈ lbs (nextC cs a).2 := by
  obtain ⟨c, hc, rfl⟩ := List.mem_map.mp h
  unfold nextC
  cases q : dep (isK a) cs with
  | some d =>
    obtain ⟨u, c', v, rfl, hv, hk, _⟩ := dep_some q
    have hc' : c' = (a, .kept) := of_decide_eq_true hk
    subst hc'
    dsimp only
    have e : (u ++ (a, Use.kept) :: v).eraseIdx ((u ++ (a, Use.kept) :: v).length - 1 - d) = u ++ v := by
      have : (u ++ (a, Use.kept) :: v).length - 1 - d = u.length := by simp; omega
      rw [this, List.eraseIdx_append_of_length_le (Nat.le_refl _)]
      simp
    rw [e]
    unfold lbs
    simp only [List.map_append, List.mem_append, List.mem_map, List.map_cons, List.map_nil, List.mem_cons, List.not_mem_nil, or_false] at hc ⊢
    rcases hc with hc | rfl | hc
    · exact .inl (.inl ⟨c, hc, rfl⟩)
    · exact .inr rfl
    · exact .inl (.inr ⟨c, hc, rfl⟩)
  | none =>
    dsimp only
    unfold lbs
    rw [List.map_append]
    exact List.mem_append_left _ (List.mem_map.mpr ⟨c, hc, rfl⟩)
theorem needed_there {pl goal : List Key} {b : Int} {k : Nat} (hb : bestK pl goal (pl.length + 1) = some (b, k)) (a : Key) (ha : a ∈ goal.drop (standF goal (pl.take (pl.length - k)))) (hs : isStr a = true) : a ∈ lbs ((cellsF goal (pl.take (pl.length - k))).filter keepC) := by
  obtain ⟨h1, h2, h3, h4⟩ := (bestK_spec pl goal (pl.length + 1)).2 b k hb
  have o1 : okF pl goal k = (goal.filter isStr).all fun x => decide (x ∈ pl.take (pl.length - k)) := rfl
  generalize pl.take (pl.length - k) = left at *
  have hff : ((cellsF goal left).filter keepC).filter fixedC = (cellsF goal left).filter fixedC := by
    rw [List.filter_filter]
    refine List.filter_congr fun c _ => ?_
    obtain ⟨x, u⟩ := c
    cases u <;> rfl
  rw [o1, List.all_eq_true] at h2
  have hgm : a ∈ goal := List.mem_of_mem_drop ha
  have hm := of_decide_eq_true (h2 a (List.mem_filter.mpr ⟨hgm, hs⟩))
  have c0 : 0 < cntL left a := mem_cnt.mp hm
  have c1 := cnt_split a (cellsF goal left)
  rw [cellsF_lbs] at c1
  have c2 := cellsF_kept goal left a
  have c3 : 0 < cntL (goal.drop (standF goal left)) a := mem_cnt.mp ha
  by_cases z : 0 < cntL (lbs ((cellsF goal left).filter fixedC)) a
  · have hz := mem_cnt.mpr z
    rw [← hff] at hz
    obtain ⟨c, hc1, hc2⟩ := List.mem_map.mp hz
    exact List.mem_map.mpr ⟨c, (List.mem_filter.mp hc1).1, hc2⟩
  · have hk : 0 < cntU .kept a (cellsF goal left) := by omega
    obtain ⟨c, hc1, hc2⟩ := List.countP_pos_iff.mp hk
    have hc3 : c = (a, .kept) := of_decide_eq_true hc2
    subst hc3
    exact List.mem_map.mpr ⟨_, List.mem_filter.mpr ⟨hc1, rfl⟩, rfl⟩
end Wx

/-! ### part T12 -/
set_option Elab.async false
set_option linter.all false
set_option maxRecDepth 100000
set_option maxHeartbeats 1000000
set_option autoImplicit false
namespace Wx
open PySem L2

section
variable {P : Program} {w : World} {K : PySem.W.Frag} {mg : Str → Option Value} {base : Heap} {f C : Addr} {fd : FuncData}
abbrev sp_counts_ofN (K : PySem.W.Frag) : Sp := SpN (ι := List Key) K (fun l => [.py (pile l)]) (fun l _ => l.length ≤ 60) fun l n w m => w = .dct (dI (tal l)) ∧ m = n
theorem ok_counts_ofN (F : FnP K "counts_of" "counts_of" (top 44) f fd)  : FnOk P w K mg base CX0 1 f fd ["labels"] (sp_counts_ofN K) := by
  refine F.ok sc_counts_of (sn_len ln_counts_of) (fun cdv A outer s H vs Q E hr h => ?_)
  have nd := sc_counts_of.nd
  refine ⟨_, PSs.nox (pss_cons (ps_setO (i := 1) nd rfl (Or.inl rfl) (pe_dnewK))
 (pss_cons (ps_for PassesOwn.never rfl (itupK (K := K) rfl (pv 0)) (pg_name (i := 2) nd rfl (Or.inl rfl)) (pss_one (ps_dput (hu_of hr) (pv 1) (pv 2) (pe_op (addK (K := K) rfl) (pe_dget2 (hu_of hr) (pv 1) (pv 2) (pe_int) ⟨rfl, rfl, rfl, rfl⟩) (pe_int)) rfl)))
 (pss_one (ps_ret (pv 1))))), ?_⟩
  refine body_n nm_counts_of ?_ vs H Q E h
  clear h hr
  intro c n x hK hp
  (subst hK)
  try clear F
  refine w1_seq ?_
  walk_at "WK"
  refine w1_seq (ws_for [2] (wi_tup rfl ?_))
  walk_at "WK"
  refine ⟨fun i e1 => ∃ s2, e1 = ⟨[.val (.py (pile x)), .own (.dct (dI (tal (x.take i)))), s2], n⟩, ⟨.emp, rfl⟩, ?_, ?_⟩
  · rintro i d e1 hd ⟨s2, rfl⟩
    obtain ⟨k, hk, _, rfl⟩ := labs_item hd
    refine wg_name ⟨rfl, ?_⟩ (Nat.le_of_ble_eq_true rfl) (by decide)
    walk_at "WK"
    refine ⟨_, rfl, ?_⟩
    rw [getD_dI]
    walk_at "WK"
    refine ⟨_, rfl, ?_⟩
    walk_at "WK"
    have hl := tal_len (x.take i)
    rw [List.length_take] at hl
    refine ⟨by rw [dI_len]; exact Nat.lt_of_le_of_lt (show _ ≤ 60 by have : x.length ≤ 60 := hp; omega) (by rw [sizeLine_eq]; decide), .val (.py (lab k)), ?_⟩
    rw [List.take_add_one, hk, show (x.take i ++ (some k).toList) = x.take i ++ [k] from rfl, tal_snoc, putP_dI]
    rfl
  · rintro e1 ⟨s2, rfl⟩
    refine w1_ret (i := 1) rfl ?_
    rw [List.length_map, labs_len, List.take_length]
    exact ⟨rfl, rfl⟩
abbrev sp_sorted_out (K : PySem.W.Frag) : Sp := SpX (ι := List Key × List Key) K (fun x => [.py (pile x.1), .py (pile x.2)]) (fun x _ => okPl x.1 ∧ okPl x.2) fun x n d m => d = .py (.list ((cellsF x.2 x.1).map cellP)) ∧ m = n
theorem ln_sorted_out (x : List Key × List Key) : [D.py (pile x.1), .py (pile x.2)].length = 2 := rfl
theorem nm_sorted_out (x : List Key × List Key) : [D.py (pile x.1), .py (pile x.2)].all D.nm = true := rfl
theorem sc_sorted_out : FnScope ["pile", "goal", "index", "found", "fixed", "wanted", "label", "use"] ["pile", "goal"] (defScope (top 49)) := ⟨rfl, rfl, rfl, by decide +kernel, rfl, by decide +kernel, by decide +kernel⟩
theorem ok_sorted_out (F : FnP K "sorted_out" "sorted_out" (top 49) f fd) (S_standing_in : Std P w K mg base 1 "standing_in" ["pile", "goal"] (sp_standing_in K)) (S_counts_ofN : Std P w K mg base 1 "counts_of" ["labels"] (sp_counts_ofN K)) (g_enumerate : mg "enumerate" = none) : FnOk P w K mg base CX0 2 f fd ["pile", "goal"] (sp_sorted_out K) := by
  refine F.ok sc_sorted_out (sx_len ln_sorted_out) (fun cdv A outer s H vs Q E hr h => ?_)
  have nd := sc_sorted_out.nd
  refine ⟨_, PSs.nox (pss_cons (ps_parP (ps_par (i := 4) (j := 5) rfl nd rfl rfl (by decide) rfl rfl (pa_cons (pe_std S_standing_in hr rfl (pa_cons (pv 0) (pa_cons (pv 1) (pa_nil)))) (pa_cons (pe_std S_counts_ofN hr rfl (pa_cons (pv 1) (pa_nil))) (pa_nil))) rfl))
 (pss_cons (ps_for PassesOwn.never rfl (ilistK (K := K) rfl (pv 4)) (pg_name (i := 2) nd rfl (Or.inl rfl)) (pss_one (ps_dput (hu_of hr) (pv 5) (pe_ix (ixK (K := K) rfl) (pv 0) (pv 2) (fun _ _ => rfl)) (pe_op op_sub (pe_dget (hu_of hr) (pv 5) (pe_ix (ixK (K := K) rfl) (pv 0) (pv 2) (fun _ _ => rfl)) (fun _ _ => rfl)) (pe_int)) rfl)))
 (pss_cons (ps_setO (i := 3) nd rfl (Or.inl rfl) (pe_lst (pa_nil)))
 (pss_cons (ps_for PassesOwn.never rfl (enumK (K := K) rfl rfl g_enumerate (pa_cons (pv 0) (pa_nil))) (gtupK (K := K) (n := 2) rfl rfl (pgs_cons (pg_name (i := 2) nd rfl (Or.inl rfl)) (pgs_cons (pg_name (i := 6) nd rfl (Or.inl rfl)) (pgs_nil)))) (pss_cons (ps_set (i := 7) nd rfl (Or.inl rfl) (pe_str))
 (pss_cons (ps_if (pt_cmpR (niK (K := K) rfl (room65 hr)) (pv 2) (pv 4) (by rfl)) (pss_cons (ps_set (i := 7) nd rfl (Or.inl rfl) (pe_ifExp (pt_cmpR op_gt (pe_dget2 (hu_of hr) (pv 5) (pv 6) (pe_int) ⟨rfl, rfl, rfl, rfl⟩) (pe_int) (nomark _)) (pe_str) (pe_str)))
 (pss_one (ps_dput (hu_of hr) (pv 5) (pv 6) (pe_op op_sub (pe_dget2 (hu_of hr) (pv 5) (pv 6) (pe_int) ⟨rfl, rfl, rfl, rfl⟩) (pe_int)) rfl))) (pss_nil))
 (pss_one (ps_expr (pe_bm PySem.F.plainAttrs_list PySem.F.slot_list_append PySem.F.type_list_append mt_append (pv 3) (pa_cons (pe_tup (pa_cons (pv 6) (pa_cons (pv 7) (pa_nil)))) (pa_nil))))))))
 (pss_one (ps_ret (pv 3))))))), ?_⟩
  refine body_x nm_sorted_out ?_ vs H Q E h
  clear h hr
  intro c n x hK hp
  (subst hK)
  try clear S_standing_in S_counts_ofN g_enumerate F
  obtain ⟨pl, goal⟩ := x
  obtain ⟨hp1, hp2⟩ : okPl pl ∧ okPl goal := hp
  dsimp only
  walk_at "WK"
  refine ⟨(pl, goal), rfl, ⟨hp1, hp2⟩, ?_⟩
  rintro d m ⟨⟨xs, rfl, hx, hx2⟩, rfl⟩
  refine ⟨rfl, rfl, ?_⟩
  refine wn_callN rfl ?_
  walk_at "WK"
  refine ⟨goal, rfl, hp2.1, ?_⟩
  rintro w1 m2 ⟨rfl, rfl⟩
  walk_at "WJ"
  have hl0 : xs.length = standF goal pl := hx
  have hz1 : ∀ j p : Nat, xs[j]? = some (p : Int) → p < pl.length ∧ pl[p]? = goal[j]? := fun j p h => by
    rw [hx2, List.getElem?_map] at h
    cases q : (fixN goal pl pl.length)[j]? with
    | none => rw [q] at h; cases h
    | some v =>
      rw [q] at h
      have : (v : Int) = (p : Int) := Option.some.inj h
      have e : v = p := by omega
      subst e
      exact fixN_get goal pl pl.length (Nat.le_refl _) j v q
  have hz2 : ∀ x ∈ xs, ∃ p : Nat, x = (p : Int) := fun x h => by
    rw [hx2] at h
    obtain ⟨v, _, rfl⟩ := List.mem_map.mp h
    exact ⟨v, rfl⟩
  have hz3 : ∀ p : Nat, p < pl.length → (decide ((p : Int) ∈ xs)) = fixB goal pl p := fun p hlt => by
    have hm := fixN_mem goal pl p pl.length
    cases q : fixB goal pl p with
    | true =>
      refine decide_eq_true ?_
      rw [hx2]
      exact List.mem_map.mpr ⟨p, hm.mpr ⟨hlt, q⟩, rfl⟩
    | false =>
      refine decide_eq_false fun z => ?_
      rw [hx2] at z
      obtain ⟨v, hv, e⟩ := List.mem_map.mp z
      have e2 : v = p := by have : (v : Int) = p := e; omega
      subst e2
      have := (hm.mp hv).2
      rw [q] at this
      cases this
  have hle : standF goal pl ≤ goal.length := (stand_sub goal pl).1
  refine ws_join (fun e1 => ∃ s2 ts, (∀ k, cnt ts k = (cntL (goal.drop (standF goal pl)) k : Int)) ∧ ts.length ≤ 120 ∧ e1 = ⟨[.val (.py (pile pl)), .val (.py (pile goal)), s2, .emp, .val (.py (.list (nums xs))), .own (.dct (dI ts)), .emp, .emp], m2⟩) ?_ ?_
  · refine ws_for [2] (wi_list rfl ?_)
    walk_at "WK"
    refine ⟨fun j e1 => ∃ s2 ts, (∀ k, cnt ts k = (cntL goal k : Int) - cntL (goal.take j) k) ∧ (∀ k ∈ goal, (getI ts k).isSome = true) ∧ ts.length ≤ 60 + j ∧ e1 = ⟨[.val (.py (pile pl)), .val (.py (pile goal)), s2, .emp, .val (.py (.list (nums xs))), .own (.dct (dI ts)), .emp, .emp], m2⟩, ⟨.emp, tal goal, fun k => by rw [cnt_tal]; show _ = _ - ((0 : Nat) : Int); omega, fun k hk => tal_some hk, by have := tal_len goal; have := hp2.1; omega, rfl⟩, ?_, ?_⟩
    · rintro j d e1 hd ⟨s2, ts, t1, t2, t3, rfl⟩
      obtain ⟨v, hv, hvm, rfl⟩ := nums_item hd
      obtain ⟨p, rfl⟩ := hz2 v hvm
      obtain ⟨p1, p2⟩ := hz1 j p hv
      obtain ⟨a, ha⟩ : ∃ a, pl[p]? = some a := ⟨_, List.getElem?_eq_getElem p1⟩
      have hga : goal[j]? = some a := by rw [← p2, ha]
      have hag : a ∈ goal := List.mem_of_getElem? hga
      obtain ⟨n0, hn0⟩ := Option.isSome_iff_exists.mp (t2 a hag)
      have hc : cnt ts a = n0 := by unfold cnt; rw [hn0]; rfl
      have hj : j < xs.length := (List.getElem?_eq_some_iff.mp hv).1
      refine wg_name ⟨rfl, ?_⟩ (Nat.le_of_ble_eq_true rfl) (by decide)
      walk_at "WK"
      refine ⟨_, labs_at ha, ?_⟩
      walk_at "WK"
      refine ⟨_, by rw [valP_dI, hn0]; rfl, ?_⟩
      walk_at "WK"
      refine ⟨_, rfl, ?_⟩
      walk_at "WK"
      refine ⟨_, labs_at ha, ?_⟩
      walk_at "WK"
      refine ⟨by rw [dI_len]; exact Nat.lt_of_le_of_lt (show _ ≤ 200 by have := hp2.1; omega) (by rw [sizeLine_eq]; decide), .val (.py (.int (p : Int))), putI ts a (n0 - 1), fun k => ?_, fun k hk => isSome_put ts a k _ (t2 k hk), by have := putI_len ts a (n0 - 1); omega, ?_⟩
      · rw [cnt_put, List.take_add_one, hga, show (goal.take j ++ (some a).toList) = goal.take j ++ [a] from rfl, cntL_app, cntL_one]
        by_cases e : k = a
        · subst e
          rw [if_pos rfl, if_pos rfl, ← hc, t1]
          omega
        · have e' : ¬ a = k := fun z => e z.symm
          rw [if_neg e, if_neg e', t1]
          omega
      · rw [putP_dI]
        rfl
    · rintro e1 ⟨s2, ts, t1, t2, t3, rfl⟩
      rw [List.length_map, nums_len, hl0] at t1 t3
      refine ⟨s2, ts, fun k => ?_, by have := hp2.1; omega, rfl⟩
      rw [t1]
      have := cntL_app (goal.take (standF goal pl)) (goal.drop (standF goal pl)) k
      rw [List.take_append_drop] at this
      omega
  rintro e1 ⟨s2, ts, t1, t3, rfl⟩
  walk_at "WJ"
  walk_at "WK"
  have hR : cellsF goal pl = cellsN goal pl (goal.drop (standF goal pl)) pl.length := rfl
  have hfix : ∀ i : Nat, i < pl.length → ∀ a, useF goal pl (goal.drop (standF goal pl)) (cellsN goal pl (goal.drop (standF goal pl)) i) i a = if fixB goal pl i = true then .fixed else if cntNF (cellsN goal pl (goal.drop (standF goal pl)) i) a < cntL (goal.drop (standF goal pl)) a then .kept else .spare := fun i _ a => rfl
  rw [hR]
  generalize goal.drop (standF goal pl) = R at *
  refine ws_for [2, 6] (wi_enumT rfl ?_)
  walk_at "WK"
  refine ⟨_, rfl, ?_⟩
  refine ⟨fun i e1 => ∃ s2 s6 s7 ts, (∀ k, cnt ts k = (cntL R k : Int) - cntNF (cellsN goal pl R i) k) ∧ ts.length ≤ 120 + i ∧ e1 = ⟨[.val (.py (pile pl)), .val (.py (pile goal)), s2, .own (.lst ((cellsN goal pl R i).map cellP)), .val (.py (.list (nums xs))), .own (.dct (dI ts)), s6, s7], m2⟩, ⟨s2, .emp, .emp, ts, fun k => by rw [t1]; show _ = _ - ((0 : Nat) : Int); omega, t3, rfl⟩, ?_, ?_⟩
  · clear t1 t3
    rintro i d e1 hd ⟨s2, s6, s7, ts, t1, t3, rfl⟩
    rw [enumD_get] at hd
    obtain ⟨a, ha, ham, rfl⟩ : ∃ k, pl[i]? = some k ∧ k ∈ pl ∧ d = .py (.tuple [.int (i : Int), lab k]) := by
      unfold labs at hd
      rw [List.getElem?_map] at hd
      cases q : pl[i]? with
      | none => rw [q] at hd; cases hd
      | some k => rw [q] at hd; cases hd; exact ⟨k, rfl, List.mem_of_getElem? q, rfl⟩
    have hi : i < pl.length := (List.getElem?_eq_some_iff.mp ha).1
    have hcl : (cellsN goal pl R i).length = i := by
      have := congrArg List.length (cellsN_facts goal pl R i (by omega)).1
      unfold lbs at this
      rw [List.length_map, List.length_take] at this
      omega
    have hsn := cellsN_snoc (goal := goal) (R := R) ha
    have hsz : (cellsN goal pl R i).length < sizeLine := by rw [hcl]; exact Nat.lt_of_lt_of_le hi (Nat.le_trans hp1.1 (by rw [sizeLine_eq]; decide))
    refine wg_pair rfl ⟨_, _, rfl, wg_name ⟨rfl, wg_name ⟨rfl, ?_⟩ (Nat.le_of_ble_eq_true rfl) (by decide)⟩ (Nat.le_of_ble_eq_true rfl) (by decide)⟩
    walk_at "WK"
    refine ⟨shp_numsL xs, ?_⟩
    rw [mem_nums, hz3 i hi]
    refine ⟨fun q1 => ?_, fun q1 => ?_⟩
    · have q1' : fixB goal pl i = false := by simpa using q1
      walk_at "WK"
      refine ⟨_, rfl, ?_⟩
      rw [getD_dI]
      walk_at "WK"
      refine ⟨fun q2 => ?_, fun q2 => ?_⟩
      · have q2' := of_decide_eq_true q2
        have eu : useF goal pl R (cellsN goal pl R i) i a = .kept := by
          unfold useF
          rw [if_neg (by rw [q1']; exact fun z => nomatch z), if_pos (by rw [t1] at q2'; omega)]
        walk_at "WK"
        refine ⟨_, rfl, ?_⟩
        rw [getD_dI]
        walk_at "WK"
        refine ⟨_, rfl, ?_⟩
        walk_at "WK"
        refine ⟨by rw [dI_len]; exact Nat.lt_of_le_of_lt (show _ ≤ 200 by have := hp1.1; omega) (by rw [sizeLine_eq]; decide), ?_⟩
        walk_at "WK"
        refine ⟨_, rfl, by rw [cells_len]; exact hsz, .val (.py (.int (i : Int))), .val (.py (lab a)), .val (.py (.str Use.kept.tx)), putI ts a (cnt ts a - 1), fun k => ?_, by have := putI_len ts a (cnt ts a - 1); omega, ?_⟩
        · rw [cnt_put, hsn, eu]
          unfold cntNF
          rw [cntU_snoc, cntU_snoc]
          have h1 := t1 k
          unfold cntNF at h1
          by_cases e : k = a
          · subst e
            rw [if_pos rfl, h1]
            simp
            omega
          · have e' : ¬ a = k := fun z => e z.symm
            rw [if_neg e, h1]
            simp [e']
        · rw [hsn, eu, List.map_append, putP_dI]
          rfl
      · have q2' := of_decide_eq_false q2
        have eu : useF goal pl R (cellsN goal pl R i) i a = .spare := by
          unfold useF
          rw [if_neg (by rw [q1']; exact fun z => nomatch z), if_neg (by rw [t1] at q2'; omega)]
        walk_at "WK"
        refine ⟨_, rfl, ?_⟩
        rw [getD_dI]
        walk_at "WK"
        refine ⟨_, rfl, ?_⟩
        walk_at "WK"
        refine ⟨by rw [dI_len]; exact Nat.lt_of_le_of_lt (show _ ≤ 200 by have := hp1.1; omega) (by rw [sizeLine_eq]; decide), ?_⟩
        walk_at "WK"
        refine ⟨_, rfl, by rw [cells_len]; exact hsz, .val (.py (.int (i : Int))), .val (.py (lab a)), .val (.py (.str Use.spare.tx)), putI ts a (cnt ts a - 1), fun k => ?_, by have := putI_len ts a (cnt ts a - 1); omega, ?_⟩
        · rw [cnt_put, hsn, eu]
          unfold cntNF
          rw [cntU_snoc, cntU_snoc]
          have h1 := t1 k
          unfold cntNF at h1
          by_cases e : k = a
          · subst e
            rw [if_pos rfl, h1]
            simp
            omega
          · have e' : ¬ a = k := fun z => e z.symm
            rw [if_neg e, h1]
            simp [e']
        · rw [hsn, eu, List.map_append, putP_dI]
          rfl
    · have q1' : fixB goal pl i = true := by simpa using q1
      have eu : useF goal pl R (cellsN goal pl R i) i a = .fixed := by
        unfold useF
        rw [if_pos q1']
      walk_at "WK"
      refine ⟨_, rfl, by rw [cells_len]; exact hsz, .val (.py (.int (i : Int))), .val (.py (lab a)), .val (.py (.str Use.fixed.tx)), ts, fun k => ?_, by omega, ?_⟩
      · rw [hsn, eu]
        unfold cntNF
        rw [cntU_snoc, cntU_snoc]
        have h1 := t1 k
        unfold cntNF at h1
        rw [h1]
        simp
      · rw [hsn, eu, List.map_append]
        rfl
  · rintro e1 ⟨s2, s6, s7, ts, t1, t3, rfl⟩
    walk_at "WK"
    rw [enumD_len, labs_len]
    exact ⟨rfl, rfl⟩
end
end Wx

/-! ### part T13 -/
set_option Elab.async false
set_option linter.all false
set_option maxRecDepth 100000
set_option maxHeartbeats 1000000
set_option autoImplicit false
namespace Wx
open PySem L2

def selC (x : Key × Bool) : Cell → Bool := if x.2 = true then isK x.1 else isL x.1
def wantP (x : Key × Bool) : PyData := .tuple [lab x.1, if x.2 = true then .str (Str.ofString "kept") else .none]
def depP (o : Option Nat) : PyData := match o with
  | some d => .int (d : Int)
  | none => .none
theorem shp_nu (u : Use) : SeqAt.shaped (.tuple [.none, .str u.tx]) = true := by cases u <;> decide +kernel
def okCs (cs : List Cell) : Prop := cs.length ≤ 200 ∧ ∀ c ∈ cs, okLab c.1
section
variable {P : Program} {w : World} {K : PySem.W.Frag} {mg : Str → Option Value} {base : Heap} {f C : Addr} {fd : FuncData}
abbrev sp_topmost (K : PySem.W.Frag) : Sp := SpX (ι := List Cell × Key × Bool) K (fun x => [.brw (x.1.map cellP), .py (wantP x.2)]) (fun x _ => okCs x.1 ∧ okLab x.2.1) fun x n d m => d = .py (depP (dep (selC x.2) x.1)) ∧ m = n
theorem ln_topmost (x : List Cell × Key × Bool) : [D.brw (x.1.map cellP), .py (wantP x.2)].length = 2 := rfl
theorem nm_topmost (x : List Cell × Key × Bool) : [D.brw (x.1.map cellP), .py (wantP x.2)].all D.nm = true := rfl
theorem sc_topmost : FnScope ["cells", "wanted", "label", "use", "depth", "other", "other_use"] ["cells", "wanted"] (defScope (top 50)) := ⟨rfl, rfl, rfl, by decide +kernel, rfl, by decide +kernel, by decide +kernel⟩
theorem ok_topmost (F : FnP K "topmost" "topmost" (top 50) f fd) (g_enumerate : mg "enumerate" = none) : FnOk P w K mg base CX0 1 f fd ["cells", "wanted"] (sp_topmost K) := by
  refine F.ok sc_topmost (sx_len ln_topmost) (fun cdv A outer s H vs Q E hr h => ?_)
  have nd := sc_topmost.nd
  refine ⟨_, PSs.nox (pss_cons (ps_asg (pv 1) (gtupK (K := K) (n := 2) rfl rfl (pgs_cons (pg_name (i := 2) nd rfl (Or.inl rfl)) (pgs_cons (pg_name (i := 3) nd rfl (Or.inl rfl)) (pgs_nil)))))
 (pss_cons (ps_for PassesOwn.never rfl (enumLK (K := K) rfl rfl g_enumerate (pa_cons (pe_revL (pv 0)) (pa_nil))) (gtupK (K := K) (n := 2) rfl rfl (pgs_cons (pg_name (i := 4) nd rfl (Or.inl rfl)) (pgs_cons (gtupK (K := K) (n := 2) rfl rfl (pgs_cons (pg_name (i := 5) nd rfl (Or.inl rfl)) (pgs_cons (pg_name (i := 6) nd rfl (Or.inl rfl)) (pgs_nil)))) (pgs_nil)))) (pss_one (ps_if (PW.pt (pw_and (pt_cmpR (eqK (K := K) rfl (room64 hr)) (pv 5) (pv 2) (nomark _)) (pw_and1 (pt_cmpR (inK (K := K) rfl (room65 hr)) (pv 3) (pe_tup (pa_cons (pe_non) (pa_cons (pv 6) (pa_nil)))) (by rfl))))) (pss_one (ps_ret (pv 4))) (pss_nil))))
 (pss_one (ps_ret (pe_non))))), ?_⟩
  refine body_x nm_topmost ?_ vs H Q E h
  clear h hr
  intro c n x hK hp
  (subst hK)
  try clear g_enumerate F
  obtain ⟨cs, a, b⟩ := x
  obtain ⟨⟨hl, hok⟩, ha⟩ : okCs cs ∧ okLab a := hp
  dsimp only
  unfold wantP
  walk_at "WK"
  refine ws_for [4, 5, 6] (wi_enumL rfl ?_)
  walk_at "WK"
  refine wp_new (wn_rev rfl ?_)
  walk_at "WK"
  refine ⟨_, rfl, ?_⟩
  refine ⟨fun i e1 => ∃ s4 s5 s6, (∀ j < i, ∀ c, cs.reverse[j]? = some c → selC (a, b) c = false) ∧ e1 = ⟨[.val (.brw (cs.map cellP)), .val (.py (wantP (a, b))), .val (.py (lab a)), .val (.py (if b = true then .str (Str.ofString "kept") else .none)), s4, s5, s6], n⟩, ⟨.emp, .emp, .emp, fun j hj => absurd hj (Nat.not_lt_zero j), rfl⟩, ?_, ?_⟩
  · rintro i d e1 hd ⟨s4, s5, s6, hno, rfl⟩
    rw [enumD_get] at hd
    obtain ⟨c, hc, hcm, rfl⟩ : ∃ c, cs.reverse[i]? = some c ∧ c ∈ cs ∧ d = .py (.tuple [.int (i : Int), .tuple [lab c.1, .str c.2.tx]]) := by
      rw [← List.map_reverse, List.getElem?_map] at hd
      cases q : cs.reverse[i]? with
      | none => rw [q] at hd; cases hd
      | some c => rw [q] at hd; cases hd; exact ⟨c, rfl, List.mem_reverse.mp (List.mem_of_getElem? q), rfl⟩
    obtain ⟨l, u⟩ := c
    have okl : okLab l := hok _ hcm
    have step : selC (a, b) (l, u) = false → ∀ j < i + 1, ∀ c, cs.reverse[j]? = some c → selC (a, b) c = false := fun z j hj c' hc' => by
      by_cases e : j = i
      · subst e
        rw [hc] at hc'
        cases hc'
        exact z
      · exact hno j (by omega) c' hc'
    have fin : selC (a, b) (l, u) = true → dep (selC (a, b)) cs = some i := fun z => by
      unfold dep
      rw [List.findIdx?_eq_some_iff_getElem]
      obtain ⟨hi, he⟩ := List.getElem?_eq_some_iff.mp hc
      refine ⟨hi, by rw [he]; exact z, fun j hj => ?_⟩
      rw [hno j hj _ (List.getElem?_eq_getElem (by omega))]
      exact fun z => nomatch z
    refine wg_pair rfl ⟨_, _, rfl, wg_name ⟨rfl, wg_pair rfl ⟨_, _, rfl, wg_name ⟨rfl, wg_name ⟨rfl, ?_⟩ (Nat.le_of_ble_eq_true rfl) (by decide)⟩ (Nat.le_of_ble_eq_true rfl) (by decide)⟩⟩ (Nat.le_of_ble_eq_true rfl) (by decide)⟩
    walk_at "WK"
    refine ⟨shp_lab (okLab_gd okl), shp_lab (okLab_gd ha), ?_⟩
    rw [eqv_lab]
    refine ⟨fun q1 => ?_, fun q1 => ?_⟩
    · have q1' : l = a := of_decide_eq_true q1
      subst q1'
      walk_at "WK"
      cases b with
      | true =>
        refine ⟨by decide +kernel, shp_nu u, ?_⟩
        have em : Mem (.str (Str.ofString "kept")) [.none, .str u.tx] = decide (u = .kept) := by cases u <;> decide +kernel
        rw [if_pos rfl, em]
        refine ⟨fun q2 => ?_, fun q2 => ?_⟩
        · have q2' := of_decide_eq_true q2
          walk_at "WK"
          have e := fin (by unfold selC isK; rw [if_pos rfl, q2']; exact decide_eq_true rfl)
          rw [e]
          exact ⟨rfl, rfl⟩
        · have q2' := of_decide_eq_false q2
          walk_at "WK"
          exact ⟨_, _, _, step (by unfold selC isK; rw [if_pos rfl]; exact decide_eq_false fun z => q2' (Prod.mk.inj z).2), rfl⟩
      | false =>
        refine ⟨by decide +kernel, shp_nu u, ?_⟩
        have em : Mem .none [.none, .str u.tx] = true := by cases u <;> decide +kernel
        rw [if_neg (fun z => nomatch z), em]
        refine ⟨fun _ => ?_, fun z => (nomatch z)⟩
        walk_at "WK"
        have e := fin (by unfold selC isL; rw [if_neg (fun z => nomatch z)]; exact decide_eq_true rfl)
        rw [e]
        exact ⟨rfl, rfl⟩
    · have q1' : ¬ l = a := of_decide_eq_false q1
      refine ⟨fun z => (nomatch z), fun _ => ?_⟩
      walk_at "WK"
      refine ⟨_, _, _, step ?_, rfl⟩
      unfold selC isK isL
      cases b with
      | true => rw [if_pos rfl]; exact decide_eq_false fun z => q1' (Prod.mk.inj z).1
      | false => rw [if_neg (fun z => nomatch z)]; exact decide_eq_false q1'
  · rintro e1 ⟨s4, s5, s6, hno, rfl⟩
    walk_at "WK"
    have e : dep (selC (a, b)) cs = none := by
      unfold dep
      rw [List.findIdx?_eq_none_iff]
      intro c hc
      obtain ⟨j, hj⟩ := List.getElem?_of_mem hc
      refine hno j ?_ c hj
      rw [enumD_len, List.length_reverse, cells_len]
      have := (List.getElem?_eq_some_iff.mp hj).1
      rwa [List.length_reverse] at this
    rw [e]
    exact ⟨rfl, rfl⟩
end
end Wx

/-! ### part T14 -/
set_option Elab.async false
set_option linter.all false
set_option maxRecDepth 100000
set_option maxHeartbeats 1000000
set_option autoImplicit false
namespace Wx
open PySem L2

theorem map_erase {α β : Type} (f : α → β) : ∀ (l : List α) (k : Nat), (l.map f).eraseIdx k = (l.eraseIdx k).map f
  | [], _ => rfl
  | _ :: _, 0 => rfl
  | a :: l, k + 1 => by
    show f a :: (l.map f).eraseIdx k = f a :: (l.eraseIdx k).map f
    rw [map_erase f l k]
theorem clrW_len (s : List Cell) : (clrW s).length ≤ 2 * s.length := by
  induction s with
  | nil => exact Nat.le_refl _
  | cons c r ih =>
    show (clrW r ++ clr1 c.2 (keepN r)).length ≤ _
    rw [List.length_append, List.length_cons]
    have : (clr1 c.2 (keepN r)).length ≤ 2 := by
      unfold clr1
      split
      · split
        · exact Nat.le_refl 2
        · exact Nat.le_succ 1
      · exact Nat.zero_le 2
    omega
section
variable {P : Program} {w : World} {K : PySem.W.Frag} {mg : Str → Option Value} {base : Heap} {f C : Addr} {fd : FuncData}
abbrev sp_cleared (K : PySem.W.Frag) : Sp := Sp2 (ι := List Cell) K (fun cs => [.py (.list (cs.map cellP))]) (fun cs _ => cs.length ≤ 100) fun cs n ds es m => ds = wtx (clrW cs) ∧ es = (cs.filter keepC).map cellP ∧ m = n
theorem ln_cleared (cs : List Cell) : [D.py (.list (cs.map cellP))].length = 1 := rfl
theorem nm_cleared (cs : List Cell) : [D.py (.list (cs.map cellP))].all D.nm = true := rfl
theorem sc_cleared : FnScope ["cells", "place", "words", "left", "depth"] ["cells"] (defScope (top 51)) := ⟨rfl, rfl, rfl, by decide +kernel, rfl, by decide +kernel, by decide +kernel⟩
theorem ok_cleared (F : FnP K "cleared" "cleared" (top 51) f fd) (g_list : mg "list" = none) (g_range : mg "range" = none) (g_len : mg "len" = none) : FnOk P w K mg base CX0 1 f fd ["cells"] (sp_cleared K) := by
  refine F.ok sc_cleared (s2_len ln_cleared) (fun cdv A outer s H vs Q E hr h => ?_)
  have nd := sc_cleared.nd
  refine ⟨_, PSs.nox (pss_cons (ps_parOO (ps_par (i := 2) (j := 3) rfl nd rfl rfl (by decide) rfl rfl (pa_cons (pe_lst (pa_nil)) (pa_cons (pe_callTy (listK (K := K) rfl) rfl g_list bt_list (pa_cons (pv 0) (pa_nil))) (pa_nil))) rfl))
 (pss_cons (ps_for PassesOwn.never rfl (pi_range3 rfl g_range (pa_cons (pe_op op_sub (pe_callB (lenK (K := K) rfl) rfl g_len PySem.boot_len (pa_cons (pv 0) (pa_nil))) (pe_int)) (pa_cons (pe_un un_neg (pe_int)) (pa_cons (pe_un un_neg (pe_int)) (pa_nil))))) (pg_name (i := 1) nd rfl (Or.inl rfl)) (pss_one (ps_if (pt_cmpR (eqK (K := K) rfl (room64 hr)) (pe_ix (ixK (K := K) rfl) (pe_ix (ixK (K := K) rfl) (pv 0) (pv 1) (fun _ _ => rfl)) (pe_int) (fun _ _ => rfl)) (pe_str) (nomark _)) (pss_cons (ps_set (i := 4) nd rfl (Or.inl rfl) (pe_op op_sub (pe_op op_sub (pe_callB (lenK (K := K) rfl) rfl g_len PySem.boot_len (pa_cons (pv 3) (pa_nil))) (pe_int)) (pv 1)))
 (pss_cons (ps_expr (pe_bm PySem.F.plainAttrs_list PySem.F.slot_list_extend PySem.F.type_list_extend mt_extend (pv 2) (pa_cons (pe_ifExp (pt_cmpR op_gt (pv 4) (pe_int) (nomark _)) (pe_lst (pa_cons (pe_f2 (pv 4)) (pa_cons (pe_str) (pa_nil)))) (pe_lst (pa_cons (pe_str) (pa_nil)))) (pa_nil))))
 (pss_one (ps_expr (pe_bm PySem.F.plainAttrs_list PySem.F.slot_list_pop PySem.F.type_list_pop mt_popAt (pv 3) (pa_cons (pv 1) (pa_nil))))))) (pss_nil))))
 (pss_one (ps_ret (pe_tup (pa_cons (pv 2) (pa_cons (pv 3) (pa_nil)))))))), ?_⟩
  refine body_2 nm_cleared ?_ vs H Q E h
  clear h hr
  intro c n x hK hp
  (subst hK)
  try clear g_list g_range g_len F
  have hp' : x.length ≤ 100 := hp
  have z9 : 1000 ≤ sizeLine := by rw [sizeLine_eq]; decide
  refine w2_seq (ws_parOO ?_ (Nat.le_of_ble_eq_true rfl) (Nat.le_of_ble_eq_true rfl) (by decide))
  walk_at "WK"
  have wl : ∀ ws : List Wd, (wtx ws).length = ws.length := fun ws => List.length_map _
  refine w2_seq (ws_for [1] (wi_rng3 ?_))
  walk_at "WK"
  rw [cells_len]
  refine ⟨((x.length : Int) - 1 - -1).toNat, RgC.neg (by omega) (by omega) (by decide) (by decide), fun i e1 => ∃ s1 s4, i ≤ x.length ∧ e1 = ⟨[.val (.py (.list (x.map cellP))), s1, .own (.lst (wtx (clrW (x.drop (x.length - i))))), .own (.lst ((x.take (x.length - i) ++ (x.drop (x.length - i)).filter keepC).map cellP)), s4], n⟩, ⟨.emp, .emp, Nat.zero_le _, ?_⟩, ?_, ?_⟩
  · rw [Nat.sub_zero, List.drop_length, List.take_length, show ([] : List Cell).filter keepC = [] from rfl, List.append_nil]
    rfl
  · rintro i d e1 hd ⟨s1, s4, hi, rfl⟩
    obtain ⟨hlt, rfl⟩ := seqI_of hd
    have hlt' : i < x.length := by omega
    obtain ⟨c, hc⟩ : ∃ c, x[x.length - (i + 1)]? = some c := ⟨_, List.getElem?_eq_getElem (by omega)⟩
    have e1 : x.length - i = x.length - (i + 1) + 1 := by omega
    have e2 : ((x.length : Int) - 1 + (i : Int) * -1) = ((x.length - (i + 1) : Nat) : Int) := by omega
    have ed : x.drop (x.length - (i + 1)) = c :: x.drop (x.length - i) := by
      rw [e1]
      have hl := (List.getElem?_eq_some_iff.mp hc)
      rw [← hl.2, List.getElem_cons_drop]
    have et : x.take (x.length - i) = x.take (x.length - (i + 1)) ++ [c] := by
      rw [e1, List.take_add_one, hc]
      rfl
    have hdl : (x.drop (x.length - i)).length ≤ 99 := by rw [List.length_drop]; omega
    have hcw := clrW_len (x.drop (x.length - i))
    have hkl := keepN_le (x.drop (x.length - i))
    have htl : (x.take (x.length - (i + 1))).length = x.length - (i + 1) := by rw [List.length_take]; omega
    rw [e2, et]
    generalize x.drop (x.length - i) = r at *
    have cw : clrW (c :: r) = clrW r ++ clr1 c.2 (keepN r) := rfl
    refine wg_name ⟨rfl, ?_⟩ (Nat.le_of_ble_eq_true rfl) (by decide)
    walk_at "WK"
    refine ⟨_, cells_at hc, ?_⟩
    rw [show cellP c = .tuple [lab c.1, .str c.2.tx] from rfl]
    walk_at "WK"
    refine ⟨_, rfl, ?_⟩
    walk_at "WK"
    refine ⟨shp_str (use_ok c.2), by decide +kernel, ?_⟩
    have eu : PyData.eqv (.str c.2.tx) (.str (Str.ofString "spare")) = decide (c.2 = .spare) := by
      rw [eqv_strD]
      exact use_tx_eq c.2 .spare
    rw [eu]
    refine ⟨fun q1 => ?_, fun q1 => ?_⟩
    · have q1' := of_decide_eq_true q1
      have ef : (c :: r).filter keepC = r.filter keepC := List.filter_cons_of_neg (by unfold keepC; rw [decide_eq_true q1']; exact fun z => nomatch z)
      have dl : (((x.take (x.length - (i + 1)) ++ [c] ++ r.filter keepC).map cellP).length : Int) - 1 - ((x.length - (i + 1) : Nat) : Int) = ((keepN r : Nat) : Int) := by
        rw [cells_len, List.length_append, List.length_append, htl]
        unfold keepN
        simp only [List.length_singleton]
        omega
      have er : (x.take (x.length - (i + 1)) ++ [c] ++ r.filter keepC).eraseIdx (x.length - (i + 1)) = x.take (x.length - (i + 1)) ++ r.filter keepC := by
        rw [List.append_assoc, List.eraseIdx_append_of_length_le (by omega), htl, Nat.sub_self]
        rfl
      have ll : ((x.take (x.length - (i + 1)) ++ [c] ++ r.filter keepC).map cellP).length = x.length - (i + 1) + 1 + keepN r := by
        rw [cells_len, List.length_append, List.length_append, htl]
        rfl
      have fin : (wtx (clrW r) ++ wtx (clr1 c.2 (keepN r))) = wtx (clrW (c :: r)) := by
        rw [cw]
        unfold wtx
        rw [List.map_append]
      refine ws_seq ?_
      walk_at "WJ"
      rw [dl]
      generalize keepN r = kk at *
      refine ws_seq (ws_ext (i := 2) rfl rfl (wn_if ?_))
      walk_at "WK"
      refine ⟨fun q2 => ?_, fun q2 => ?_⟩
      · have q2' := of_decide_eq_true q2
        walk_at "WK"
        refine wp_f2 (by decide +kernel) ?_
        walk_at "WK"
        refine ⟨_, rfl, log2_lt (by omega), by rw [fr_tx]; unfold Wd.tx; rw [sg_len]; exact Nat.le_trans (wd_len (w := .r kk) ⟨by omega, by omega⟩).2 (by rw [sizeLine_eq]; decide), ?_⟩
        rw [fr_tx]
        walk_at "WK"
        refine ⟨_, rfl, by rw [wl]; exact Nat.le_trans (show _ ≤ 400 by show _ + 2 ≤ 400; omega) (by rw [sizeLine_eq]; decide), ?_⟩
        refine ws_popD (i := 3) rfl rfl ?_
        walk_at "WK"
        refine ⟨_, rfl, by rw [ll]; omega, by omega, .val (.py (.int ((x.length - (i + 1) : Nat) : Int))), .val (.py (.int ((kk : Nat) : Int))), hlt', ?_⟩
        rw [ed, ef, map_erase, er, ← fin]
        unfold clr1
        rw [if_pos q1', if_pos (by omega)]
        rfl
      · have q2' := of_decide_eq_false q2
        walk_at "WK"
        refine ⟨_, rfl, by rw [wl]; exact Nat.le_trans (show _ ≤ 400 by show _ + 1 ≤ 400; omega) (by rw [sizeLine_eq]; decide), ?_⟩
        refine ws_popD (i := 3) rfl rfl ?_
        walk_at "WK"
        refine ⟨_, rfl, by rw [ll]; omega, by omega, .val (.py (.int ((x.length - (i + 1) : Nat) : Int))), .val (.py (.int ((kk : Nat) : Int))), hlt', ?_⟩
        rw [ed, ef, map_erase, er, ← fin]
        unfold clr1
        rw [if_pos q1', if_neg (by omega)]
        rfl
    · have q1' := of_decide_eq_false q1
      have ef : (c :: r).filter keepC = c :: r.filter keepC := List.filter_cons_of_pos (by unfold keepC; rw [decide_eq_false q1']; rfl)
      walk_at "WK"
      refine ⟨.val (.py (.int ((x.length - (i + 1) : Nat) : Int))), s4, hlt', ?_⟩
      rw [ed, cw, ef]
      unfold clr1
      rw [if_neg q1', List.append_nil, List.append_assoc]
      rfl
  · rintro e1 ⟨s1, s4, hi, rfl⟩
    rw [seqI_len]
    refine w2_ret (i := 2) (j := 3) rfl rfl (by decide) ?_
    have e : x.length - ((x.length : Int) - 1 - -1).toNat = 0 := by omega
    rw [e]
    exact ⟨rfl, rfl, rfl⟩
end
end Wx

/-! ### part T15 -/
set_option Elab.async false
set_option linter.all false
set_option maxRecDepth 100000
set_option maxHeartbeats 1000000
set_option autoImplicit false
namespace Wx
open PySem L2

theorem rep_d (k : Nat) : (List.replicate k [PyData.str (Str.ofString "d")]).flatten = wtx (List.replicate k .d) := by
  have e : PyData.str (Str.ofString "d") = .str Wd.d.tx := by rw [txt_d]; rfl
  rw [e]
  induction k with
  | zero => rfl
  | succ k ih => rw [List.replicate_succ, List.replicate_succ, List.flatten_cons, ih]; rfl
theorem wtx_app (a b : List Wd) : wtx (a ++ b) = wtx a ++ wtx b := List.map_append
def planP (pl goal : List Key) : PyData := match bestK pl goal (pl.length + 1) with
  | none => .none
  | some b => .list (wtx (planW pl goal b.2))
section
variable {P : Program} {w : World} {K : PySem.W.Frag} {mg : Str → Option Value} {base : Heap} {f C : Addr} {fd : FuncData}
abbrev sp_plan_between (K : PySem.W.Frag) : Sp := SpX (ι := List Key × List Key × List (Key × PyData)) K (fun x => [.py (pile x.1), .py (pile x.2.1), .dcl x.2.2]) (fun x _ => okPl x.1 ∧ okPl x.2.1 ∧ knownOk x.2.1 x.2.2 ∧ knownTx x.2.1 x.2.2) fun x n d m => d = .py (planP x.1 x.2.1) ∧ m = n
theorem ln_plan_between (x : List Key × List Key × List (Key × PyData)) : [D.py (pile x.1), .py (pile x.2.1), .dcl x.2.2].length = 3 := rfl
theorem nm_plan_between (x : List Key × List Key × List (Key × PyData)) : [D.py (pile x.1), .py (pile x.2.1), .dcl x.2.2].all D.nm = true := rfl
theorem sc_plan_between : FnScope ["pile", "goal", "known", "best", "left", "words", "label", "cells", "depth", "copied"] ["pile", "goal", "known"] (defScope (top 52)) := ⟨rfl, rfl, rfl, by decide +kernel, rfl, by decide +kernel, by decide +kernel⟩
theorem ok_plan_between (F : FnP K "plan_between" "plan_between" (top 52) f fd) (S_best_between : Std P w K mg base 3 "best_between" ["pile", "goal", "known"] (sp_best_between K)) (g_len : mg "len" = none) (S_cleared : Std P w K mg base 1 "cleared" ["cells"] (sp_cleared K)) (S_sorted_out : Std P w K mg base 2 "sorted_out" ["pile", "goal"] (sp_sorted_out K)) (S_topmost : Std P w K mg base 1 "topmost" ["cells", "wanted"] (sp_topmost K)) (S_standing_in : Std P w K mg base 1 "standing_in" ["pile", "goal"] (sp_standing_in K)) : FnOk P w K mg base CX0 4 f fd ["pile", "goal", "known"] (sp_plan_between K) := by
  refine F.ok sc_plan_between (sx_len ln_plan_between) (fun cdv A outer s H vs Q E hr h => ?_)
  have nd := sc_plan_between.nd
  refine ⟨_, PSs.nox (pss_cons (ps_set (i := 3) nd rfl (Or.inl rfl) (pe_std S_best_between hr rfl (pa_cons (pv 0) (pa_cons (pv 1) (pa_cons (pv 2) (pa_nil))))))
 (pss_cons (ps_if (pt_cmpR opISN (pv 3) (pe_non) (nomark _)) (pss_one (ps_ret (pe_non))) (pss_nil))
 (pss_cons (ps_set (i := 4) nd rfl (Or.inl rfl) (pe_slice (slK (K := K) rfl) (pv 0) po_none (po_some (pe_op op_sub (pe_callB (lenK (K := K) rfl) rfl g_len PySem.boot_len (pa_cons (pv 0) (pa_nil))) (pe_ix (ixK (K := K) rfl) (pv 3) (pe_int) (fun _ _ => rfl))))))
 (pss_cons (ps_asg (pe_std S_cleared (hr.mono (by decide)) rfl (pa_cons (pe_std S_sorted_out (hr.mono (by decide)) rfl (pa_cons (pv 4) (pa_cons (pv 1) (pa_nil)))) (pa_nil))) (gtupK (K := K) (n := 2) rfl rfl (pgs_cons (pg_name (i := 5) nd rfl (Or.inl rfl)) (pgs_cons (pg_name (i := 7) nd rfl (Or.inl rfl)) (pgs_nil)))))
 (pss_cons (ps_setO (i := 5) nd rfl (Or.inl rfl) (pe_op (addK (K := K) rfl) (pe_op opMUL (pe_lst (pa_cons (pe_str) (pa_nil))) (pe_ix (ixK (K := K) rfl) (pv 3) (pe_int) (fun _ _ => rfl))) (pv 5)))
 (pss_cons (ps_for PassesOwn.never rfl (itupK (K := K) rfl (pe_slice (slK (K := K) rfl) (pv 1) (po_some (pe_callB (lenK (K := K) rfl) rfl g_len PySem.boot_len (pa_cons (pe_std S_standing_in (hr.mono (by decide)) rfl (pa_cons (pv 4) (pa_cons (pv 1) (pa_nil)))) (pa_nil)))) po_none)) (pg_name (i := 6) nd rfl (Or.inl rfl)) (pss_cons (ps_set (i := 8) nd rfl (Or.inl rfl) (pe_std S_topmost (hr.mono (by decide)) rfl (pa_cons (pv 7) (pa_cons (pe_tup (pa_cons (pv 6) (pa_cons (pe_str) (pa_nil)))) (pa_nil)))))
 (pss_cons (ps_set (i := 9) nd rfl (Or.inl rfl) (pe_std S_topmost (hr.mono (by decide)) rfl (pa_cons (pv 7) (pa_cons (pe_tup (pa_cons (pv 6) (pa_cons (pe_non) (pa_nil)))) (pa_nil)))))
 (pss_cons (ps_if (pt_cmpR opNTN (pv 8) (pe_non) (nomark _)) (pss_cons (ps_expr (pe_bm PySem.F.plainAttrs_list PySem.F.slot_list_append PySem.F.type_list_append mt_append (pv 5) (pa_cons (pe_f2 (pv 8)) (pa_nil))))
 (pss_one (ps_expr (pe_bm PySem.F.plainAttrs_list PySem.F.slot_list_pop PySem.F.type_list_pop mt_popAt (pv 7) (pa_cons (pe_op op_sub (pe_op op_sub (pe_callB (lenK (K := K) rfl) rfl g_len PySem.boot_len (pa_cons (pv 7) (pa_nil))) (pe_int)) (pv 8)) (pa_nil)))))) (pss_one (ps_expr (pe_bm PySem.F.plainAttrs_list PySem.F.slot_list_append PySem.F.type_list_append mt_append (pv 5) (pa_cons (pe_ifExp (pt_cmpR opNTN (pv 9) (pe_non) (nomark _)) (pe_f2 (pv 9)) (pe_dget (hu_of hr) (pv 2) (pv 6) (fun _ _ => rfl))) (pa_nil))))))
 (pss_one (ps_expr (pe_bm PySem.F.plainAttrs_list PySem.F.slot_list_append PySem.F.type_list_append mt_append (pv 7) (pa_cons (pe_tup (pa_cons (pv 6) (pa_cons (pe_str) (pa_nil)))) (pa_nil)))))))))
 (pss_one (ps_ret (pv 5))))))))), ?_⟩
  refine body_x nm_plan_between ?_ vs H Q E h
  clear h hr
  intro c n x hK hp
  (subst hK)
  try clear S_best_between g_len S_cleared S_sorted_out S_topmost S_standing_in F
  obtain ⟨pl, goal, ds⟩ := x
  obtain ⟨hp1, hp2, hk, ht⟩ : okPl pl ∧ okPl goal ∧ knownOk goal ds ∧ knownTx goal ds := hp
  dsimp only
  walk_at "WK"
  refine ⟨(pl, goal, ds), rfl, ⟨hp1, hp2, hk⟩, ?_⟩
  rintro d m ⟨⟨p, rfl, h⟩, rfl⟩
  refine ⟨rfl, rfl, ?_⟩
  unfold bestI at h
  unfold planP
  dsimp only at h
  cases q : bestK pl goal (pl.length + 1) with
  | none =>
    rw [q] at h
    subst h
    walk_at "WK"
    refine rw_isNN ?_
    walk_at "WK"
    refine ⟨fun _ => ?_, fun z => (nomatch z)⟩
    walk_at "WK"
    first | exact ⟨rfl, rfl⟩ | exact rfl
  | some bk =>
    obtain ⟨b, k⟩ := bk
    rw [q] at h
    subst h
    obtain ⟨k1, k2, k3, k4⟩ := (bestK_spec pl goal (pl.length + 1)).2 b k q
    walk_at "WK"
    refine rw_isN rfl ?_
    walk_at "WK"
    refine ⟨fun z => (nomatch z), fun _ => ?_⟩
    walk_at "WK"
    refine ⟨_, rfl, ?_⟩
    dsimp only
    walk_at "WJ"
    rw [labs_len, ← Int.ofNat_sub (by omega : k ≤ pl.length), cut_toK (labs pl) (pl.length - k) (by rw [labs_len]; omega), labs_take]
    have hpL : okPl (pl.take (pl.length - k)) := hp1.take _
    have hnd := needed_there q
    have hpw : planW pl goal k = (growS (List.replicate k .d ++ clrW (cellsF goal (pl.take (pl.length - k))), (cellsF goal (pl.take (pl.length - k))).filter keepC) (goal.drop (standF goal (pl.take (pl.length - k))))).1 := rfl
    rw [hpw]
    generalize pl.take (pl.length - k) = left at *
    have hcl : (cellsF goal left).length = left.length := by
      have := congrArg List.length (cellsF_lbs goal left)
      unfold lbs at this
      rwa [List.length_map] at this
    have hco : ∀ c ∈ cellsF goal left, okLab c.1 := fun c hc => by
      have : c.1 ∈ lbs (cellsF goal left) := List.mem_map.mpr ⟨c, hc, rfl⟩
      rw [cellsF_lbs] at this
      exact hpL.2 _ this
    have hcw := clrW_len (cellsF goal left)
    refine ws_seq ?_
    refine ws_two (i := 5) (j := 7) rfl (Nat.le_of_ble_eq_true rfl) (Nat.le_of_ble_eq_true rfl) (by decide) ?_
    walk_at "WK"
    refine ⟨(left, goal), rfl, ⟨hpL, hp2⟩, ?_⟩
    rintro d m2 ⟨rfl, rfl⟩
    refine ⟨rfl, ?_⟩
    dsimp only
    generalize hcs : cellsF goal left = cs at *
    walk_at "WK"
    refine ⟨cs, rfl, by have := hpL.1; omega, ?_⟩
    rintro xs ys m3 ⟨rfl, rfl, rfl⟩
    refine ws_seq (ws_setO ?_ (Nat.le_of_ble_eq_true rfl))
    refine wn_catNO rfl ?_
    refine wn_rep ?_
    walk_at "WK"
    have wl : ∀ ws : List Wd, (wtx ws).length = ws.length := fun ws => List.length_map _
    have z9 : 1000 ≤ sizeLine := by rw [sizeLine_eq]; decide
    have hkb : k ≤ 60 := by have := hp1.1; omega
    have hcb : (clrW cs).length ≤ 120 := by have := hpL.1; omega
    refine ⟨_, rfl, ?_⟩
    walk_at "WK"
    refine ⟨_, rfl, ?_⟩
    refine ⟨_, rfl, by omega, by omega, by rw [Int.toNat_natCast]; show 1 * k ≤ _; omega, ?_⟩
    refine ⟨_, rfl, ?_, ?_⟩
    · rw [Int.toNat_natCast, rep_d, wl, wl, List.length_replicate]; omega
    rw [Int.toNat_natCast, rep_d, ← wtx_app]
    walk_at "WJ"
    have hC : ∀ c ∈ cs.filter keepC, okLab c.1 := fun c hc => hco c (List.mem_filter.mp hc).1
    have hCl : (cs.filter keepC).length ≤ 60 := Nat.le_trans (List.length_filter_le _ _) (by have := hpL.1; omega)
    have hWl : (List.replicate k Wd.d ++ clrW cs).length ≤ 180 := by rw [List.length_append, List.length_replicate]; omega
    generalize cs.filter keepC = C0 at *
    generalize List.replicate k Wd.d ++ clrW cs = W0 at *
    refine ws_seq (ws_for [6] (wi_tup rfl ?_))
    walk_at "WK"
    refine ⟨(left, goal), rfl, ⟨hpL, hp2⟩, ?_⟩
    rintro d m4 ⟨⟨xs, rfl, hx, _⟩, rfl⟩
    refine ⟨rfl, ?_⟩
    walk_at "WK"
    rw [nums_len, hx, cut_from (labs goal) (standF goal left) (by rw [labs_len]; exact (stand_sub goal left).1), labs_drop]
    have hRok : ∀ a ∈ goal.drop (standF goal left), okLab a ∧ a ∈ goal := fun a ha => ⟨hp2.2 a (List.mem_of_mem_drop ha), List.mem_of_mem_drop ha⟩
    have hRl : (goal.drop (standF goal left)).length ≤ 60 := by rw [List.length_drop]; have := hp2.1; omega
    generalize goal.drop (standF goal left) = R at *
    walk_at "WK"
    refine ⟨fun i e1 => ∃ s6 s8 s9, ((∀ c ∈ (growS (W0, C0) (R.take i)).2, okLab c.1) ∧ (growS (W0, C0) (R.take i)).2.length ≤ 60 + i ∧ (growS (W0, C0) (R.take i)).1.length ≤ 180 + i ∧ ∀ x ∈ lbs C0, x ∈ lbs (growS (W0, C0) (R.take i)).2) ∧ e1 = ⟨[.val (.py (pile pl)), .val (.py (pile goal)), .val (.dcl ds), .val (.py (.tuple [.int b, .int (k : Int)])), .val (.py (pile left)), .own (.lst (wtx (growS (W0, C0) (R.take i)).1)), s6, .own (.lst ((growS (W0, C0) (R.take i)).2.map cellP)), s8, s9], m4⟩, ⟨.emp, .emp, .emp, ⟨hC, by rw [List.take_zero]; show C0.length ≤ _; omega, by rw [List.take_zero]; show W0.length ≤ _; omega, fun x hx => hx⟩, rfl⟩, ?_, ?_⟩
    · rintro i d e1 hd ⟨s6, s8, s9, ⟨g1, g2, g3, g4⟩, rfl⟩
      obtain ⟨a, ha, ham, rfl⟩ := labs_item hd
      have hi : i < R.length := (List.getElem?_eq_some_iff.mp ha).1
      have ts : R.take (i + 1) = R.take i ++ [a] := by rw [List.take_add_one, ha]; rfl
      obtain ⟨ola, hag⟩ := hRok a ham
      have hnda : isStr a = true → a ∈ lbs (growS (W0, C0) (R.take i)).2 := fun z => g4 a (hnd a ham z)
      obtain ⟨n1, n2⟩ := next_mem (growS (W0, C0) (R.take i)).2 a
      have n3 := next_lbs (growS (W0, C0) (R.take i)).2 a
      have gs := grow_snoc (W0, C0) (R.take i) a
      rw [← ts] at gs
      refine wg_name ⟨rfl, ?_⟩ (Nat.le_of_ble_eq_true rfl) (by decide)
      have done : ∀ s8 s9 : Slo, (fun e1 : En => ∃ s6 s8 s9, ((∀ c ∈ (growS (W0, C0) (R.take (i + 1))).2, okLab c.1) ∧ (growS (W0, C0) (R.take (i + 1))).2.length ≤ 60 + (i + 1) ∧ (growS (W0, C0) (R.take (i + 1))).1.length ≤ 180 + (i + 1) ∧ ∀ x ∈ lbs C0, x ∈ lbs (growS (W0, C0) (R.take (i + 1))).2) ∧ e1 = ⟨[.val (.py (pile pl)), .val (.py (pile goal)), .val (.dcl ds), .val (.py (.tuple [.int b, .int (k : Int)])), .val (.py (pile left)), .own (.lst (wtx (growS (W0, C0) (R.take (i + 1))).1)), s6, .own (.lst ((growS (W0, C0) (R.take (i + 1))).2.map cellP)), s8, s9], m4⟩) ⟨[.val (.py (pile pl)), .val (.py (pile goal)), .val (.dcl ds), .val (.py (.tuple [.int b, .int (k : Int)])), .val (.py (pile left)), .own (.lst (wtx ((growS (W0, C0) (R.take i)).1 ++ [(nextC (growS (W0, C0) (R.take i)).2 a).1]))), .val (.py (lab a)), .own (.lst ((nextC (growS (W0, C0) (R.take i)).2 a).2.map cellP)), s8, s9], m4⟩ := fun s8 s9 => by
        refine ⟨.val (.py (lab a)), s8, s9, ?_, ?_⟩
        · rw [gs]
          dsimp only
          refine ⟨fun c hc => ?_, by omega, by rw [List.length_append]; simp only [List.length_singleton]; omega, fun x hx => n3 x (g4 x hx)⟩
          rcases n1 c hc with h | h
          · exact g1 c h
          · rw [h]; exact ola
        · rw [gs]
      clear gs n1 n2 n3
      generalize hst : (growS (W0, C0) (R.take i)) = st at *
      obtain ⟨W, C⟩ := st
      dsimp only at *
      have hCs : okCs C := ⟨by omega, g1⟩
      refine ws_seq ?_
      walk_at "WJ"
      refine ⟨(C, a, true), rfl, ⟨hCs, ola⟩, ?_⟩
      rintro d m5 ⟨rfl, rfl⟩
      refine ⟨rfl, rfl, ?_⟩
      refine ws_seq ?_
      walk_at "WJ"
      refine ⟨(C, a, false), rfl, ⟨hCs, ola⟩, ?_⟩
      rintro d m6 ⟨rfl, rfl⟩
      refine ⟨rfl, rfl, ?_⟩
      have sk : selC (a, true) = isK a := rfl
      have sl_ : selC (a, false) = isL a := rfl
      dsimp only
      rw [sk, sl_]
      cases q8 : dep (isK a) C with
      | some d8 =>
        have hd8 : d8 < C.length := by
          obtain ⟨u, c', v, e, hv, _⟩ := dep_some q8
          rw [e]
          simp
          omega
        have en : nextC C a = (.r d8, C.eraseIdx (C.length - 1 - d8) ++ [(a, .fixed)]) := by unfold nextC; rw [q8]
        rw [en] at done
        rw [show depP (some d8) = .int (d8 : Int) from rfl]
        refine ws_seq ?_
        walk_at "WJ"
        refine ⟨fun _ => ?_, fun z => (nomatch z)⟩
        refine ws_seq ?_
        walk_at "WJ"
        refine wp_f2 (by decide +kernel) ?_
        walk_at "WK"
        have hw : (Wd.r d8).tx.length ≤ sizeLine := by
          unfold Wd.tx
          rw [sg_len]
          show (TL.numL d8).length + 1 ≤ _
          have := TL.numL_len (k := 31) (by decide) (show d8 < 10 ^ 31 by omega)
          omega
        refine ⟨_, rfl, log2_lt (by omega), by rw [fr_tx]; exact hw, ?_⟩
        rw [fr_tx]
        refine ⟨_, rfl, by rw [wl]; exact Nat.lt_of_lt_of_le (show _ < 1000 by omega) z9, ?_⟩
        refine ws_popD (i := 7) rfl rfl ?_
        walk_at "WK"
        refine ⟨C.length - 1 - d8, ?_, by rw [cells_len]; omega, by omega, ?_⟩
        · rw [cells_len]
          congr 2
          omega
        rw [map_erase]
        walk_at "WJ"
        refine ⟨_, rfl, by rw [cells_len]; exact Nat.lt_of_le_of_lt (List.length_eraseIdx_le _ _) (Nat.lt_of_lt_of_le (show _ < 1000 by omega) z9), ?_⟩
        have := done (.val (.py (depP (some d8)))) (.val (.py (depP (dep (isL a) C))))
        rw [wtx_app, List.map_append] at this
        exact this
      | none =>
        rw [show depP none = .none from rfl]
        refine ws_seq ?_
        walk_at "WJ"
        refine ⟨fun z => (nomatch z), fun _ => ?_⟩
        walk_at "WJ"
        cases q9 : dep (isL a) C with
        | some d9 =>
          have hd9 : d9 < C.length := by
            obtain ⟨u, c', v, e, hv, _⟩ := dep_some q9
            rw [e]
            simp
            omega
          have en : nextC C a = (.p d9, C ++ [(a, .fixed)]) := by unfold nextC; rw [q8, q9]
          rw [en] at done
          rw [show depP (some d9) = .int (d9 : Int) from rfl]
          walk_at "WJ"
          refine ⟨fun _ => ?_, fun z => (nomatch z)⟩
          refine wp_f2 (by decide +kernel) ?_
          walk_at "WK"
          have hw : (Wd.p d9).tx.length ≤ sizeLine := by
            unfold Wd.tx
            rw [sg_len]
            show (TL.numL d9).length + 1 ≤ _
            have := TL.numL_len (k := 31) (by decide) (show d9 < 10 ^ 31 by omega)
            omega
          refine ⟨_, rfl, log2_lt (by omega), by rw [fp_tx]; exact hw, ?_⟩
          rw [fp_tx]
          refine ⟨_, rfl, by rw [wl]; exact Nat.lt_of_lt_of_le (show _ < 1000 by omega) z9, ?_⟩
          walk_at "WJ"
          refine ⟨_, rfl, by rw [cells_len]; exact Nat.lt_of_lt_of_le (show _ < 1000 by omega) z9, ?_⟩
          have := done (.val (.py (depP none))) (.val (.py (depP (some d9))))
          rw [wtx_app, List.map_append] at this
          exact this
        | none =>
          obtain ⟨v, rfl⟩ : ∃ v, a = .inl v := by
            cases a with
            | inl v => exact ⟨v, rfl⟩
            | inr v =>
              obtain ⟨c', h1, h2⟩ := List.mem_map.mp (hnda rfl)
              have := dep_none q9 c' h1
              unfold isL at this
              exact absurd h2 (of_decide_eq_false this)
          have en : nextC C (.inl v) = (.c v, C ++ [(.inl v, .fixed)]) := by unfold nextC; rw [q8, q9]; rfl
          rw [en] at done
          rw [show depP none = .none from rfl]
          walk_at "WJ"
          refine ⟨fun z => (nomatch z), fun _ => ?_⟩
          walk_at "WJ"
          refine ⟨_, ht v hag, ?_⟩
          rw [wc_tx]
          refine ⟨_, rfl, by rw [wl]; exact Nat.lt_of_lt_of_le (show _ < 1000 by omega) z9, ?_⟩
          walk_at "WJ"
          refine ⟨_, rfl, by rw [cells_len]; exact Nat.lt_of_lt_of_le (show _ < 1000 by omega) z9, ?_⟩
          have := done (.val (.py (depP none))) (.val (.py (depP none)))
          rw [wtx_app, List.map_append] at this
          exact this
    · rintro e1 ⟨s6, s8, s9, _, rfl⟩
      walk_at "WK"
      rw [List.length_map, labs_len, List.take_length]
      exact ⟨rfl, rfl⟩
end
end Wx

/-! ### part Zx -/
set_option Elab.async false
set_option linter.all false
set_option maxRecDepth 100000
set_option maxHeartbeats 1000000
set_option autoImplicit false
/-! Own exceptions without fields: raised, caught, asked by isinstance. -/
namespace Wx
open PySem L2 PyProof.Rows
structure Ex0 (K : PySem.W.Frag) (mg : Str → Option Value) (x : Str) (C : Addr) : Prop where
  gC : mg x = some (.ref C)
  xC : PySem.W.excIn K C veT "ValueError.__new__" = true
  kC : PySem.W.keepIn K (.ref C) = true
  tC : PySem.W.typeIn K (.ref C) = some (.type "type")
  te : PySem.W.exmOne K (.ref C) (.ref C) = some true
  ve : PySem.W.kitOne K (.ref C) (.type "ValueError") = some true
  ec : ExcC K C
def tRaise0 (C : Addr) (W : WX) : TS := fun _ σ H => W (.ref C) none σ H
theorem ps_raise0 {X : Cx} {C : Addr} {W : WX} {x m : Str} {j : Nat} {p p2 pos pos2 : Pos} (hc : X.calm = true) (T : Ex0 X.K X.mg x C) (tk : Takes X W) (hg : Gl X x := by rfl) (hdb : (x == ("__debug__" : Str)) = false := by decide) :
    PS X (.Raise (some (.Call (.Name x p) [.Constant (.str m) j p2] [] pos)) none pos2) (tRaise0 C W) := ps_raise hc tk (pmk_own PySem.F.excBase_ValueError T.xC T.gC T.kC (raises_own T.ec.hs T.tC) hg hdb)
theorem wr_raise0 {c : Cy} {C : Addr} {W : WX} {sl : List Slo} {nn : Nat} {Φ : Addr → XFs → En → Prop} (h : Φ C none ⟨sl, nn⟩) : Wr c (tRaise0 C W) ⟨sl, nn⟩ W Φ := ⟨fun σ A H o x Dn => x σ A H ⟨sl, nn⟩ (.ref C) none C none h Kept.refl (fun _ z => .inl z) o ⟨rfl, rfl⟩⟩
def rIsE0 (K : PySem.W.Frag) (D a : Addr) (cls : Value) (d : Option Addr) : List V → Hp → VK → Prop := fun xs H Q => cls = .ref D ∧ d = none ∧ rIsE K D a xs H Q
theorem call_isE0 {X : Cx} {a D : Addr} {oe : Obj} {cls : Value} {d : Option Addr} {pn : List (Addr × Obj)} {x : Str} (T : Ex0 X.K X.mg x D) (hz : Zc cls d oe) (hf : ∃ vs, oe.data = .fields vs) : CallR (X.suite a ((a, oe) :: pn)) (.builtin "isinstance") (rIsE0 X.K D a cls d) := by
  intro pins s σ H xs us Q I r h
  obtain ⟨rfl, rfl, h⟩ := h
  exact call_isE T.ec hz hf pins s σ H xs us Q I r h
theorem bt_ValueError : bootBuiltins "ValueError" = some (.type "ValueError") := by decide +kernel
section
variable {c : Cy} {sl : List Slo} {nn : Nat} {ta : TA} {K : PySem.W.Frag} {W : WX}
/-- a call that may raise: it does not -/
theorem wp_callO {ι : Type} {ar : ι → List D} {pre : ι → Nat → Prop} {post : ι → Nat → D → Nat → Prop} {s2 : Sp} {Φ : D → Nat → Prop} (hK : K = c.K)
    (h : Wa c ta ⟨sl, nn⟩ fun ds n => ds.all argOk = true ∧ ∃ x, ds.map arg = ar x ∧ pre x n ∧ ∀ d m, post x n d m → outD d = true ∧ Φ d m) : Wp c (tCallE (SpO (SpX K ar pre post) s2) W ta) ⟨sl, nn⟩ Φ := ⟨fun σ A H o Q k => by
  refine h.run σ A H o _ fun vs H1 ds n p e1 g1 x => ?_
  have o1 := o.keep e1 g1
  obtain ⟨p1, z, p2, p3, p4⟩ := p
  exact .inl ⟨z, sp_run (K := K) (pre := fun ds n => ds = ar z ∧ pre z n) (post := fun _ n d m => post z n d m) hK o1.at_ x p1 ⟨p2, p3⟩ p4 fun v H2 d m q e2 g2 y => k v H2 d m q (e1.trans e2) g2 y⟩⟩
/-- .. it does -/
theorem wq_callO {ι : Type} {ar : ι → List D} {pre : ι → Nat → Prop} {post : ι → Nat → Addr → XFs → Nat → Prop} {s1 : Sp} {Φ : Addr → XFs → En → Prop} (hK : K = c.K)
    (h : Wa c ta ⟨sl, nn⟩ fun ds n => ds.all argOk = true ∧ ∃ z, ds.map arg = ar z ∧ pre z n ∧ ∀ cl fs m, post z n cl fs m → Φ cl fs ⟨sl, m⟩) : Wq c (tCallE (SpO s1 (SpR K ar pre post)) W ta) ⟨sl, nn⟩ W Φ := ⟨fun σ A H o x Q => by
  refine h.run σ A H o _ fun vs H1 ds n p e1 g1 y => ?_
  have o1 := o.keep e1 g1
  obtain ⟨p1, z, p2, p3, p4⟩ := p
  subst hK
  refine .inr ⟨c.at_ A o1.at_.k, n, z, rfl, ⟨o1.at_.al, g1.kl⟩, by rw [← p2]; exact dxs_arg o1.at_ p1 y, p3, fun cls od H' cl fs m q ek g' xd => ?_⟩
  have ek' : Ek c H1 H' := ek
  have g2 : Good c m H' := ⟨fun b w => g'.al b (o1.at_.s b w), g'.kl⟩
  exact x σ A H' ⟨sl, m⟩ cls od cl fs (p4 cl fs m q) (Kp.ek (e1.trans ek')) (fun _ z => .inl z) (o1.keep ek' g2) xd⟩
end
end Wx

/-! ### part T16 -/
set_option Elab.async false
set_option linter.all false
set_option maxRecDepth 100000
set_option maxHeartbeats 1000000
set_option autoImplicit false
namespace Wx
open PySem L2

def planWs (pl goal : List Key) : List Wd := match bestK pl goal (pl.length + 1) with
  | none => []
  | some b => planW pl goal b.2
theorem planWs_ok {pl goal : List Key} (h1 : okPl pl) (h2 : okPl goal) (h : (bestK pl goal (pl.length + 1)).isSome = true) : RunK 60 pl (planWs pl goal) goal ∧ dueF pl goal = some ((planWs pl goal).length : Int) ∧ okWs (planWs pl goal) := by
  obtain ⟨⟨b, k⟩, hb⟩ := Option.isSome_iff_exists.mp h
  have hv : ∀ v, Sum.inl v ∈ goal → -(10 ^ 30) ≤ v ∧ v ≤ 10 ^ 30 := fun v hv => h2.2 _ hv
  obtain ⟨p1, p2, p3⟩ := plan_ok (T := 60) (by decide) h1.1 h2.1 hv hb
  have e : planWs pl goal = planW pl goal k := by unfold planWs; rw [hb]
  have hd : dueF pl goal = some b := by unfold dueF; rw [bestK_F, hb]; rfl
  rw [e]
  obtain ⟨r1, r2, r3, r4⟩ := run_high h1.1 _ _ p1
  refine ⟨p1, by rw [hd, p2], ?_, p3, by omega⟩
  have hn : numF pl goal k = b := ((bestK_spec pl goal (pl.length + 1)).2 b k hb).2.2.1
  have hk := ((bestK_spec pl goal (pl.length + 1)).2 b k hb).1
  have n1 : numF pl goal k = k + (2 * spareF (pl.take (pl.length - k)) goal + goal.length - standF goal (pl.take (pl.length - k))) := rfl
  have sl := spare_cells goal (pl.take (pl.length - k))
  have sl2 : spN (cellsF goal (pl.take (pl.length - k))) ≤ pl.length := by
    have h := congrArg List.length (cellsF_lbs goal (pl.take (pl.length - k)))
    unfold lbs at h
    rw [List.length_map, List.length_take] at h
    unfold spN
    exact Nat.le_trans List.countP_le_length (by omega)
  have := h2.1
  have := h1.1
  omega
section
variable {P : Program} {w : World} {K : PySem.W.Frag} {mg : Str → Option Value} {base : Heap} {f C CT : Addr} {fd : FuncData}
abbrev sp_plan (K : PySem.W.Frag) (C : Addr) : Sp := SpX (ι := List Key × List Key) K (fun x => [.py (pile x.1), .py (pile x.2)]) (fun x _ => okPl x.1 ∧ okPl x.2 ∧ (bestK x.1 x.2 (x.1.length + 1)).isSome = true) fun x n d m => d = progD C (planWs x.1 x.2) ∧ m = n
theorem ln_plan (x : List Key × List Key) : [D.py (pile x.1), .py (pile x.2)].length = 2 := rfl
theorem nm_plan (x : List Key × List Key) : [D.py (pile x.1), .py (pile x.2)].all D.nm = true := rfl
theorem sc_plan : FnScope ["pile", "goal", "words"] ["pile", "goal"] (defScope (top 55)) := ⟨rfl, rfl, rfl, by decide +kernel, rfl, by decide +kernel, by decide +kernel⟩
theorem ok_plan (F : FnP K "plan" "plan" (top 55) f fd) (S_require_pile : Std P w K mg base 5 "require_pile" ["value"] (sp_require_pile K)) (S_plan_between : Std P w K mg base 4 "plan_between" ["pile", "goal", "known"] (sp_plan_between K)) (S_words_known : Std P w K mg base 4 "words_known" ["goal"] (sp_words_known K)) (kc : KitC K C) (pa : PrA K C) (gP : mg "Program" = some (.ref C)) (I_Program : StdI P w K mg base 5 C (si_Program___init__ K C)) : FnOk P w K mg base CX0 7 f fd ["pile", "goal"] (sp_plan K C) := by
  refine F.ok sc_plan (sx_len ln_plan) (fun cdv A outer s H vs Q E hr h => ?_)
  have nd := sc_plan.nd
  refine ⟨_, PSs.nox (pss_cons (ps_expr (pe_std S_require_pile (hr.mono (by decide)) rfl (pa_cons (pv 0) (pa_nil))))
 (pss_cons (ps_expr (pe_std S_require_pile (hr.mono (by decide)) rfl (pa_cons (pv 1) (pa_nil))))
 (pss_cons (ps_set (i := 2) nd rfl (Or.inl rfl) (pe_std S_plan_between (hr.mono (by decide)) rfl (pa_cons (pv 0) (pa_cons (pv 1) (pa_cons (pe_std S_words_known (hr.mono (by decide)) rfl (pa_cons (pv 1) (pa_nil))) (pa_nil))))))
 (pss_cons (ps_if (pt_cmpR opISN (pv 2) (pe_non) (nomark _)) (pss_one (ps_never)) (pss_nil))
 (pss_one (ps_ret (pe_makeS I_Program gP hr rfl (pa_cons (pe_joinK (K := K) rfl (pe_str) (pv 2)) (pa_nil))))))))), ?_⟩
  refine body_x nm_plan ?_ vs H Q E h
  clear h hr
  intro c n x hK hp
  (subst hK)
  try clear S_require_pile S_plan_between S_words_known I_Program F
  obtain ⟨pl, goal⟩ := x
  obtain ⟨hp1, hp2, hb⟩ : okPl pl ∧ okPl goal ∧ (bestK pl goal (pl.length + 1)).isSome = true := hp
  obtain ⟨r1, r2, r3⟩ := planWs_ok hp1 hp2 hb
  dsimp only
  walk_at "WK"
  refine ⟨pl, rfl, hp1, ?_⟩
  rintro d m ⟨rfl, rfl⟩
  refine ⟨rfl, ?_⟩
  walk_at "WK"
  refine ⟨goal, rfl, hp2, ?_⟩
  rintro d m ⟨rfl, rfl⟩
  refine ⟨rfl, ?_⟩
  walk_at "WK"
  refine ⟨goal, rfl, hp2, ?_⟩
  rintro d m ⟨⟨ds, rfl, hk, ht⟩, rfl⟩
  refine ⟨rfl, ?_⟩
  walk_at "WK"
  refine ⟨(pl, goal, ds), rfl, ⟨hp1, hp2, hk, ht⟩, ?_⟩
  rintro d m ⟨rfl, rfl⟩
  refine ⟨rfl, ?_⟩
  dsimp only
  have ep : planP pl goal = .list (wtx (planWs pl goal)) := by
    unfold planP planWs
    obtain ⟨b, hb⟩ := Option.isSome_iff_exists.mp hb
    rw [hb]
  rw [ep]
  walk_at "WK"
  refine rw_isN rfl ?_
  walk_at "WK"
  refine ⟨fun z => (nomatch z), fun _ => ?_⟩
  walk_at "WK"
  refine wp_join rfl ?_
  walk_at "WK"
  refine ⟨_, rfl, ?_⟩
  walk_at "WK"
  refine ⟨(planWs pl goal).map Wd.tx, by unfold wtx; rw [List.map_map]; rfl, ?_, ?_⟩
  · have h1 := sumW r3.2.1
    rw [List.length_map, show (Str.ofString " ").length = 1 by decide +kernel]
    have := r3.1
    omega
  walk_at "WK"
  refine ⟨planWs pl goal, rfl, r3, ?_⟩
  exact ⟨rfl, rfl⟩
abbrev spr_plan (K : PySem.W.Frag) (C CT : Addr) : Sp := SpR (ι := List Key × List Key) K (fun x => [.py (pile x.1), .py (pile x.2)]) (fun x _ => okPl x.1 ∧ okPl x.2 ∧ bestK x.1 x.2 (x.1.length + 1) = none) fun x n cl fs m => cl = CT ∧ fs = none ∧ m = n
theorem lnr_plan (x : List Key × List Key) : [D.py (pile x.1), .py (pile x.2)].length = 2 := rfl
theorem nmr_plan (x : List Key × List Key) : [D.py (pile x.1), .py (pile x.2)].all D.nm = true := rfl
theorem okr_plan (F : FnP K "plan" "plan" (top 55) f fd) (S_require_pile : Std P w K mg base 5 "require_pile" ["value"] (sp_require_pile K)) (S_plan_between : Std P w K mg base 4 "plan_between" ["pile", "goal", "known"] (sp_plan_between K)) (S_words_known : Std P w K mg base 4 "words_known" ["goal"] (sp_words_known K)) (kc : KitC K C) (pa : PrA K C) (gP : mg "Program" = some (.ref C)) (I_Program : StdI P w K mg base 5 C (si_Program___init__ K C)) (X0 : Ex0 K mg "NotReachable" CT) : FnOk P w K mg base (L2.CX P w) 7 f fd ["pile", "goal"] (spr_plan K C CT) := by
  refine F.ok sc_plan (sr_len lnr_plan) (fun cdv A outer s H vs Q E hr h => ?_)
  have nd := sc_plan.nd
  have tk : Takes (cxOf (L2.CX P w) P w K mg base ["pile", "goal", "words"] "plan" (defScope (top 55)) f cdv A outer s H E) (fun cls d _ H => E cls d H) := takes_of rfl rfl rfl rfl
  refine ⟨_, (pss_cons (ps_expr (pe_std S_require_pile (hr.mono (by decide)) rfl (pa_cons (pv 0) (pa_nil))))
 (pss_cons (ps_expr (pe_std S_require_pile (hr.mono (by decide)) rfl (pa_cons (pv 1) (pa_nil))))
 (pss_cons (ps_set (i := 2) nd rfl (Or.inl rfl) (pe_std S_plan_between (hr.mono (by decide)) rfl (pa_cons (pv 0) (pa_cons (pv 1) (pa_cons (pe_std S_words_known (hr.mono (by decide)) rfl (pa_cons (pv 1) (pa_nil))) (pa_nil))))))
 (pss_cons (ps_if (pt_cmpR opISN (pv 2) (pe_non) (nomark _)) (pss_one (ps_raise0 rfl X0 tk)) (pss_nil))
 (pss_one (ps_ret (pe_makeS I_Program gP hr rfl (pa_cons (pe_joinK (K := K) rfl (pe_str) (pv 2)) (pa_nil))))))))), ?_⟩
  refine body_r nmr_plan ?_ vs H Q h
  clear h hr tk
  intro c n x hK hp
  (subst hK)
  try clear S_require_pile S_plan_between S_words_known I_Program F
  obtain ⟨pl, goal⟩ := x
  obtain ⟨hp1, hp2, hb⟩ : okPl pl ∧ okPl goal ∧ bestK pl goal (pl.length + 1) = none := hp
  dsimp only
  refine wr_seq2 ?_
  walk_at "WK"
  refine ⟨pl, rfl, hp1, ?_⟩
  rintro d m ⟨rfl, rfl⟩
  refine ⟨rfl, ?_⟩
  refine wr_seq2 ?_
  walk_at "WK"
  refine ⟨goal, rfl, hp2, ?_⟩
  rintro d m ⟨rfl, rfl⟩
  refine ⟨rfl, ?_⟩
  refine wr_seq2 ?_
  walk_at "WK"
  refine ⟨goal, rfl, hp2, ?_⟩
  rintro d m ⟨⟨ds, rfl, hk, ht⟩, rfl⟩
  refine ⟨rfl, ?_⟩
  walk_at "WK"
  refine ⟨(pl, goal, ds), rfl, ⟨hp1, hp2, hk, ht⟩, ?_⟩
  rintro d m ⟨rfl, rfl⟩
  refine ⟨rfl, ?_⟩
  dsimp only
  have ep : planP pl goal = .none := by
    unfold planP
    rw [hb]
  rw [ep]
  walk_at "WK"
  refine wr_seq1 (wr_if ?_)
  walk_at "WK"
  refine rw_isNN ?_
  walk_at "WK"
  refine ⟨fun _ => wr_raise0 ⟨rfl, rfl, rfl⟩, fun z => (nomatch z)⟩
end
end Wx

/-! ### part T17 -/
set_option Elab.async false
set_option linter.all false
set_option maxRecDepth 100000
set_option maxHeartbeats 1000000
set_option autoImplicit false
namespace Wx
open PySem L2

def rNiSg : R2 := fun x y H Q => ∃ (c : Nat) (z : Str), x = .str ⟨#[c]⟩ ∧ y = .str z ∧ Q (.bl (!decide (c ∈ z.cps.toList))) H
theorem opNiSg {X : Cx} : OpR X (compareOp .NotIn) rNiSg := op_notIn_sign
theorem rw_niSg {c : Cy} {Φ : D → Nat → Prop} {n : Nat} {ch : Nat} {z : Str} (h : Φ (.py (.bool (!decide (ch ∈ z.cps.toList)))) n) : Rw c rNiSg (.py (.str ⟨#[ch]⟩)) (.py (.str z)) n Φ := ⟨fun A H v1 v2 a x1 x2 Q k => by
  cases Da.str_eq x1
  cases Da.str_eq x2
  exact ⟨ch, z, rfl, rfl, k _ H _ n h Ek.refl a.good (.bl _)⟩⟩
theorem wc_int {v : Int} (h : -(10 ^ 30) ≤ v ∧ v ≤ 10 ^ 30) : intText? (Wd.c v).tx = some v := by
  have b : v.natAbs < 10 ^ 31 := by omega
  have hl := TL.numL_len (k := 31) (by decide) b
  by_cases n : v < 0
  · have e : (Wd.c v).tx.cps.toList = 45 :: TL.numL v.natAbs := by
      show (Wd.c v).sg = _
      rw [wd_c, if_pos n]
    have lx : (Wd.c v).tx.length ≤ 4300 := by
      unfold Wd.tx
      rw [sg_len, wd_c, if_pos n, List.length_cons]
      omega
    rw [intText_neg e (TL.numL_digits _) (TL.numL_ne _) lx, TL.numL_val]
    congr 1
    omega
  · have e : (Wd.c v).tx.cps.toList = TL.numL v.natAbs := by
      show (Wd.c v).sg = _
      rw [wd_c, if_neg n]
    have lx : (Wd.c v).tx.length ≤ 4300 := by
      unfold Wd.tx
      rw [sg_len, wd_c, if_neg n]
      omega
    rw [intText_digits (by rw [e]; exact TL.numL_digits _) (by rw [e]; exact TL.numL_ne _) lx, e, TL.numL_val]
    congr 1
    omega
theorem wc_head (v : Int) : ∃ ch r, (Wd.c v).sg = ch :: r ∧ (ch = 45 ∨ (48 ≤ ch ∧ ch ≤ 57)) := by
  rw [wd_c]
  split
  · exact ⟨45, _, rfl, .inl rfl⟩
  · obtain ⟨ch, r, e1, h1, h2, _⟩ := num_head v.natAbs
    exact ⟨ch, r, e1, .inr ⟨h1, h2⟩⟩
def foundD (C : Addr) (pl goal : List Key) : D := match bestK pl goal (pl.length + 1) with
  | none => .py .none
  | some _ => progD C (planWs pl goal)
section
variable {P : Program} {w : World} {K : PySem.W.Frag} {mg : Str → Option Value} {base : Heap} {f C CT : Addr} {fd : FuncData}
abbrev sp__law_found (K : PySem.W.Frag) (C : Addr) : Sp := SpX (ι := List Key × List Key) K (fun x => [.py (pile x.1), .py (pile x.2)]) (fun x _ => okPl x.1 ∧ okPl x.2) fun x n d m => d = foundD C x.1 x.2 ∧ m = n
theorem ln__law_found (x : List Key × List Key) : [D.py (pile x.1), .py (pile x.2)].length = 2 := rfl
theorem nm__law_found (x : List Key × List Key) : [D.py (pile x.1), .py (pile x.2)].all D.nm = true := rfl
theorem sc__law_found : FnScope ["pile_here", "goal", "e"] ["pile_here", "goal"] (defScope (top 64)) := ⟨rfl, rfl, rfl, by decide +kernel, rfl, by decide +kernel, by decide +kernel⟩
theorem ok__law_found (F : FnP K "_law_found" "_law_found" (top 64) f fd) (g_isinstance : mg "isinstance" = none) (g_ValueError : mg "ValueError" = none) (R_plan : StdE P w K mg base 7 "plan" ["pile", "goal"] (SpO (sp_plan K C) (spr_plan K C CT))) (X0 : Ex0 K mg "NotReachable" CT) : FnOk P w K mg base CX0 8 f fd ["pile_here", "goal"] (sp__law_found K C) := by
  refine F.ok sc__law_found (sx_len ln__law_found) (fun cdv A outer s H vs Q E hr h => ?_)
  have nd := sc__law_found.nd
  refine ⟨_, PSs.nox (pss_one (ps_try_as (i := 2) rfl rfl nd rfl rfl ⟨rfl, by decide, .inl X0.gC⟩ takes0 (fun W pn xe tk _ => pss_one (ps_ret (pe_stdE R_plan hr tk rfl (pa_cons (pv 0) (pa_cons (pv 1) (pa_nil)))))) (fun a oe cls d pn hz hf => pss_one (ps_ret (pe_ifExp (truK (K := K) rfl (pe_callB (call_isE0 X0 hz hf) rfl g_isinstance bt_isinstance (pa_cons (pv 2) (pa_cons (pe_bltn (v := .ty "ValueError") rfl g_ValueError bt_ValueError rfl) pa_nil))) (by intro _; rfl)) (pe_non) (pe_str)))))), ?_⟩
  refine body_x (t := fun D σ H => tRet (tCallE (SpO (sp_plan K C) (spr_plan K C CT)) (wAs _ (.ref CT) 2 _ _ D) (tCons (tVar 0) (tCons (tVar 1) tNil))) D σ H) nm__law_found ?_ vs H Q E h
  clear h hr
  intro c n x hK hp
  (subst hK)
  try clear g_isinstance g_ValueError R_plan F
  obtain ⟨pl, goal⟩ := x
  obtain ⟨hp1, hp2⟩ : okPl pl ∧ okPl goal := hp
  dsimp only
  unfold foundD
  cases hb : bestK pl goal (pl.length + 1) with
  | some b =>
    refine ws_tryN (tb := fun W => tRet (tCallE (SpO (sp_plan c.K C) (spr_plan c.K C CT)) W (tCons (tVar 0) (tCons (tVar 1) tNil)))) (fun W => ?_)
    refine ws_ret (wp_callO rfl ?_)
    walk_at "WK"
    refine ⟨(pl, goal), rfl, ⟨hp1, hp2, by rw [hb]; rfl⟩, ?_⟩
    rintro d m ⟨rfl, rfl⟩
    exact ⟨rfl, rfl, rfl⟩
  | none =>
    refine ws_tryR (tb := fun W => tRet (tCallE (SpO (sp_plan c.K C) (spr_plan c.K C CT)) W (tCons (tVar 0) (tCons (tVar 1) tNil)))) (Ψ := fun cl fs e' => cl = CT ∧ fs = none ∧ e'.n = n ∧ e'.sl.length = 3) (fun W => wr_ret (wq_callO rfl ?_)) ?_
    · walk_at "WK"
      exact ⟨(pl, goal), rfl, ⟨hp1, hp2, hb⟩, fun cl fs m z => ⟨z.1, z.2.1, z.2.2, rfl⟩⟩
    · rintro σ A1 H1 e' cl fs od ⟨rfl, rfl, en, el⟩ o xd
      refine ⟨X0.te, fun a ha Dn nx rt bk ct => ?_⟩
      obtain ⟨_, rfl⟩ := xd
      have hσ : (σ.set 2 (some (V.ref a)))[2]? = some (some (V.ref a)) := by
        rw [List.getElem?_set_self (by rw [o.len, el]; decide)]
      dsimp only [tRet, tIf, tTest, tVar, tC, tCB, tCons, tNil]
      refine ⟨.ref a, hσ, rfl, rfl, .ty "ValueError", .type "ValueError", true, rfl, (fun u r => r), X0.ve, true, rfl, ?_⟩
      rw [if_pos rfl]
      exact rt .non H1 (.py .none) n ⟨rfl, rfl⟩ (Kp.ek Ek.refl) (en ▸ o.good) .non
end
end Wx

/-! ### part T18 -/
set_option Elab.async false
set_option linter.all false
set_option maxRecDepth 100000
set_option maxHeartbeats 1000000
set_option autoImplicit false
namespace Wx
open PySem L2

theorem cut_init {α : Type} (xs : List α) (x : α) : cutD (xs ++ [x]) none (some (-1)) = xs := by
  unfold cutD
  have e : HT.sIx (xs ++ [x]).length (xs ++ [x]).length (some (-1)) = xs.length := by
    unfold HT.sIx
    rw [List.length_append]
    simp
    omega
  rw [HT.sIx_none, e]
  simp
def freshP : Wd → PyData
  | .c v => .int v
  | _ => .none
theorem pr_in (ch : Nat) : decide (ch ∈ (Str.ofString "pr").cps.toList) = decide (ch = 112 ∨ ch = 114) := by
  have e : (Str.ofString "pr").cps.toList = [112, 114] := by decide +kernel
  rw [e]
  simp
theorem prd_in (ch : Nat) : decide (ch ∈ (Str.ofString "prd").cps.toList) = decide (ch = 112 ∨ ch = 114 ∨ ch = 100) := by
  have e : (Str.ofString "prd").cps.toList = [112, 114, 100] := by decide +kernel
  rw [e]
  simp
theorem all_in (ch : Nat) (h : ch = 112 ∨ ch = 114 ∨ ch = 100 ∨ ch = 45 ∨ (48 ≤ ch ∧ ch ≤ 57)) : decide (ch ∈ (Str.ofString "prd-0123456789").cps.toList) = true := by
  have e : (Str.ofString "prd-0123456789").cps.toList = [112, 114, 100, 45, 48, 49, 50, 51, 52, 53, 54, 55, 56, 57] := by decide +kernel
  rw [e]
  refine decide_eq_true ?_
  simp only [List.mem_cons, List.not_mem_nil, or_false]
  omega
section
variable {P : Program} {w : World} {K : PySem.W.Frag} {mg : Str → Option Value} {base : Heap} {f C CT : Addr} {fd : FuncData}
abbrev sp__law_step (K : PySem.W.Frag) : Sp := SpX (ι := List Key × Wd × List Key) K (fun x => [.py (.list (labs x.1)), .py (.str x.2.1.tx), .py (freshP x.2.1)]) (fun x _ => okWd x.2.1 ∧ StepK 60 x.1 x.2.1 x.2.2 ∧ x.1.length ≤ 60) fun x n d m => d = .py (.list (labs x.2.2)) ∧ m = n
theorem ln__law_step (x : List Key × Wd × List Key) : [D.py (.list (labs x.1)), .py (.str x.2.1.tx), .py (freshP x.2.1)].length = 3 := rfl
theorem nm__law_step (x : List Key × Wd × List Key) : [D.py (.list (labs x.1)), .py (.str x.2.1.tx), .py (freshP x.2.1)].all D.nm = true := rfl
theorem sc__law_step : FnScope ["cells", "word", "fresh", "spot"] ["cells", "word", "fresh"] (defScope (top 62)) := ⟨rfl, rfl, rfl, by decide +kernel, rfl, by decide +kernel, by decide +kernel⟩
theorem ok__law_step (F : FnP K "_law_step" "_law_step" (top 62) f fd) (g_int : mg "int" = none) (g_len : mg "len" = none) : FnOk P w K mg base CX0 1 f fd ["cells", "word", "fresh"] (sp__law_step K) := by
  refine F.ok sc__law_step (sx_len ln__law_step) (fun cdv A outer s H vs Q E hr h => ?_)
  have nd := sc__law_step.nd
  refine ⟨_, PSs.nox (pss_cons (ps_if (pt_cmpR (eqK (K := K) rfl (room64 hr)) (pv 1) (pe_str) (nomark _)) (pss_one (ps_ret (pe_slice (slK (K := K) rfl) (pv 0) po_none (po_some (pe_un un_neg (pe_int)))))) (pss_nil))
 (pss_cons (ps_if (pt_cmpR opNiSg (pe_ix (ixK (K := K) rfl) (pv 1) (pe_int) (fun _ _ => rfl)) (pe_str) (by rfl)) (pss_one (ps_ret (pe_op (addK (K := K) rfl) (pv 0) (pe_lst (pa_cons (pv 2) (pa_nil)))))) (pss_nil))
 (pss_cons (ps_set (i := 3) nd rfl (Or.inl rfl) (pe_op op_sub (pe_op op_sub (pe_callB (lenK (K := K) rfl) rfl g_len PySem.boot_len (pa_cons (pv 0) (pa_nil))) (pe_int)) (pe_callTy callINTS rfl g_int bt_int (pa_cons (pe_slice (slK (K := K) rfl) (pv 1) (po_some (pe_int)) po_none) (pa_nil)))))
 (pss_cons (ps_if (pt_cmpR (eqK (K := K) rfl (room64 hr)) (pe_ix (ixK (K := K) rfl) (pv 1) (pe_int) (fun _ _ => rfl)) (pe_str) (nomark _)) (pss_one (ps_ret (pe_op (addK (K := K) rfl) (pv 0) (pe_lst (pa_cons (pe_ix (ixK (K := K) rfl) (pv 0) (pv 3) (fun _ _ => rfl)) (pa_nil)))))) (pss_nil))
 (pss_one (ps_ret (pe_op (addK (K := K) rfl) (pe_op (addK (K := K) rfl) (pe_slice (slK (K := K) rfl) (pv 0) po_none (po_some (pv 3))) (pe_slice (slK (K := K) rfl) (pv 0) (po_some (pe_op (addK (K := K) rfl) (pv 3) (pe_int))) po_none)) (pe_lst (pa_cons (pe_ix (ixK (K := K) rfl) (pv 0) (pv 3) (fun _ _ => rfl)) (pa_nil)))))))))), ?_⟩
  refine body_x nm__law_step ?_ vs H Q E h
  clear h hr
  intro c n x hK hp
  (subst hK)
  try clear g_int g_len F
  obtain ⟨l, w, l'⟩ := x
  obtain ⟨hw, hs, hl⟩ : okWd w ∧ StepK 60 l w l' ∧ l.length ≤ 60 := hp
  have z9 : 1000 ≤ sizeLine := by rw [sizeLine_eq]; decide
  have hw33 := wd_len hw
  have l3 : w.tx.length ≤ sizeLine := by unfold Wd.tx; rw [sg_len]; omega
  dsimp only
  cases hs with
  | d l a =>
    walk_at "WK"
    refine ⟨fun _ => ?_, fun z => (nomatch z)⟩
    walk_at "WK"
    rw [show labs (l' ++ [a]) = labs l' ++ [lab a] from List.map_append, cut_init]
    exact ⟨rfl, rfl⟩
  | p u a v lt =>
    have hv : v.length ≤ 98 := hw
    walk_at "WK"
    rw [txt_d]
    refine ⟨shp_wd (.p v.length), shp_sg (by simp), ?_⟩
    have e0 : PyData.eqv (.str (Wd.p v.length).tx) (.str (sg [100])) = false := by
      rw [show (Wd.p v.length).tx = sg (Wd.p v.length).sg from rfl, eqv_sg]
      refine decide_eq_false fun z => ?_
      have := (List.cons.inj (show (112 :: TL.numL v.length) = [100] from z)).1; omega
    rw [e0]
    walk_at "WK"
    refine ⟨fun z => (nomatch z), fun _ => ?_⟩
    walk_at "WK"
    refine ⟨l3, 112, at0 rfl, ?_⟩
    walk_at "WK"
    refine rw_niSg ?_
    rw [pr_in, decide_eq_true (by omega)]
    walk_at "WK"
    refine ⟨fun z => (nomatch z), fun _ => ?_⟩
    walk_at "WK"
    refine ⟨l3, ?_⟩
    rw [cut_tail _ (show (Wd.p v.length).tx.cps.toList = 112 :: TL.numL v.length from rfl), ← txN_sg]
    walk_at "WK"
    refine cw_intS (one_mk ⟨_, _, rfl, txN_int (show v.length < 10 ^ 200 by omega), Nat.le_trans (txN_le (k := 31) (by decide) (show v.length < 10 ^ 31 by omega)) (by decide), ?_⟩)
    walk_at "WK"
    rw [labs_len, show (((u ++ a :: v).length : Nat) : Int) - 1 - (v.length : Int) = (u.length : Int) by simp only [List.length_append, List.length_cons]; omega]
    have hget : (u ++ a :: v)[u.length]? = some a := by rw [List.getElem?_append_right (Nat.le_refl _), Nat.sub_self]; rfl
    walk_at "WK"
    refine ⟨l3, 112, at0 rfl, ?_⟩
    walk_at "WK"
    refine ⟨fun _ => ?_, fun z => absurd z (by decide)⟩
    walk_at "WK"
    refine ⟨_, labs_at hget, ?_⟩
    walk_at "WK"
    refine ⟨by rw [labs_len]; show _ + 1 ≤ _; omega, ?_⟩
    rw [show labs (u ++ a :: v) ++ [lab a] = labs (u ++ a :: v ++ [a]) from (labs_app (u ++ a :: v) [a])]
    exact ⟨rfl, rfl⟩
  | r u a v =>
    have hv : 1 ≤ v.length ∧ v.length ≤ 99 := hw
    walk_at "WK"
    rw [txt_d]
    refine ⟨shp_wd (.r v.length), shp_sg (by simp), ?_⟩
    have e0 : PyData.eqv (.str (Wd.r v.length).tx) (.str (sg [100])) = false := by
      rw [show (Wd.r v.length).tx = sg (Wd.r v.length).sg from rfl, eqv_sg]
      refine decide_eq_false fun z => ?_
      have := (List.cons.inj (show (114 :: TL.numL v.length) = [100] from z)).1; omega
    rw [e0]
    walk_at "WK"
    refine ⟨fun z => (nomatch z), fun _ => ?_⟩
    walk_at "WK"
    refine ⟨l3, 114, at0 rfl, ?_⟩
    walk_at "WK"
    refine rw_niSg ?_
    rw [pr_in, decide_eq_true (by omega)]
    walk_at "WK"
    refine ⟨fun z => (nomatch z), fun _ => ?_⟩
    walk_at "WK"
    refine ⟨l3, ?_⟩
    rw [cut_tail _ (show (Wd.r v.length).tx.cps.toList = 114 :: TL.numL v.length from rfl), ← txN_sg]
    walk_at "WK"
    refine cw_intS (one_mk ⟨_, _, rfl, txN_int (show v.length < 10 ^ 200 by omega), Nat.le_trans (txN_le (k := 31) (by decide) (show v.length < 10 ^ 31 by omega)) (by decide), ?_⟩)
    walk_at "WK"
    rw [labs_len, show (((u ++ a :: v).length : Nat) : Int) - 1 - (v.length : Int) = (u.length : Int) by simp only [List.length_append, List.length_cons]; omega]
    have hget : (u ++ a :: v)[u.length]? = some a := by rw [List.getElem?_append_right (Nat.le_refl _), Nat.sub_self]; rfl
    walk_at "WK"
    refine ⟨l3, 114, at0 rfl, ?_⟩
    walk_at "WK"
    refine ⟨fun z => absurd z (by decide), fun _ => ?_⟩
    walk_at "WK"
    have c1 : cutD (labs (u ++ a :: v)) none (some (u.length : Int)) = labs u := by
      rw [cut_toK (labs (u ++ a :: v)) u.length (by rw [labs_len]; simp), labs_take, List.take_left]
    have c2 : cutD (labs (u ++ a :: v)) (some ((u.length : Int) + 1)) none = labs v := by
      have h := cut_from (labs (u ++ a :: v)) (u.length + 1) (by rw [labs_len]; simp)
      rw [labs_drop] at h
      have e : (u ++ a :: v).drop (u.length + 1) = v := by
        rw [show u ++ a :: v = (u ++ [a]) ++ v by simp, show u.length + 1 = (u ++ [a]).length by simp, List.drop_left]
      rw [e] at h
      exact h
    refine ⟨_, rfl, ?_⟩
    walk_at "WK"
    refine ⟨_, rfl, ?_⟩
    refine wn_sl rfl ?_
    walk_at "WK"
    refine ⟨_, rfl, _, rfl, ?_, ?_⟩
    · rw [c1, c2, labs_len, labs_len]
      simp only [List.length_append, List.length_cons] at hl
      omega
    rw [c1, c2]
    walk_at "WK"
    refine ⟨_, labs_at hget, ?_⟩
    walk_at "WK"
    rw [labs_app u v]
    refine ⟨?_, ?_⟩
    · rw [labs_len]
      simp only [List.length_append, List.length_cons, List.length_nil] at hl ⊢
      omega
    rw [show labs (u ++ v) ++ [lab a] = labs (u ++ v ++ [a]) from (labs_app (u ++ v) [a])]
    exact ⟨rfl, rfl⟩
  | c l v lt =>
    have hv : -(10 ^ 30) ≤ v ∧ v ≤ 10 ^ 30 := hw
    obtain ⟨ch, r, ew, hch⟩ := wc_head v
    walk_at "WK"
    rw [txt_d]
    refine ⟨shp_wd (.c v), shp_sg (by simp), ?_⟩
    have e0 : PyData.eqv (.str (Wd.c v).tx) (.str (sg [100])) = false := by
      rw [show (Wd.c v).tx = sg (Wd.c v).sg from rfl, eqv_sg]
      refine decide_eq_false fun z => ?_
      rw [ew] at z; have := (List.cons.inj z).1; omega
    rw [e0]
    walk_at "WK"
    refine ⟨fun z => (nomatch z), fun _ => ?_⟩
    walk_at "WK"
    refine ⟨l3, ch, at0 ew, ?_⟩
    walk_at "WK"
    refine rw_niSg ?_
    rw [pr_in, decide_eq_false (by omega)]
    walk_at "WK"
    refine ⟨fun _ => ?_, fun z => (nomatch z)⟩
    walk_at "WK"
    rw [show freshP (Wd.c v) = lab (.inl v) from rfl]
    refine ⟨by rw [labs_len]; show _ + 1 ≤ _; omega, ?_⟩
    rw [show labs l ++ [lab (.inl v)] = labs (l ++ [.inl v]) from (labs_app l [.inl v])]
    exact ⟨rfl, rfl⟩
end
end Wx

/-! ### part T19 -/
set_option Elab.async false
set_option linter.all false
set_option maxRecDepth 100000
set_option maxHeartbeats 1000000
set_option autoImplicit false
namespace Wx
open PySem L2

section
variable {P : Program} {w : World} {K : PySem.W.Frag} {mg : Str → Option Value} {base : Heap} {f C CT : Addr} {fd : FuncData}
abbrev sp__law_done (K : PySem.W.Frag) : Sp := SpX (ι := List Wd × List Key × List Key) K (fun x => [.py (.list (wtx x.1)), .py (.list (labs x.2.1))]) (fun x _ => (∀ w ∈ x.1, okWd w) ∧ RunK 60 x.2.1 x.1 x.2.2 ∧ x.2.1.length ≤ 60) fun x n d m => d = .py (.list (labs x.2.2)) ∧ m = n
theorem ln__law_done (x : List Wd × List Key × List Key) : [D.py (.list (wtx x.1)), .py (.list (labs x.2.1))].length = 2 := rfl
theorem nm__law_done (x : List Wd × List Key × List Key) : [D.py (.list (wtx x.1)), .py (.list (labs x.2.1))].all D.nm = true := rfl
theorem sc__law_done : FnScope ["words", "cells", "word", "far_here"] ["words", "cells"] (defScope (top 63)) := ⟨rfl, rfl, rfl, by decide +kernel, rfl, by decide +kernel, by decide +kernel⟩
theorem ok__law_done (F : FnP K "_law_done" "_law_done" (top 63) f fd) (S__law_step : Std P w K mg base 1 "_law_step" ["cells", "word", "fresh"] (sp__law_step K)) (g_int : mg "int" = none) (g_len : mg "len" = none) : FnOk P w K mg base CX0 2 f fd ["words", "cells"] (sp__law_done K) := by
  refine F.ok sc__law_done (sx_len ln__law_done) (fun cdv A outer s H vs Q E hr h => ?_)
  have nd := sc__law_done.nd
  refine ⟨_, PSs.nox (pss_cons (ps_for PassesOwn.never rfl (ilistK (K := K) rfl (pv 0)) (pg_name (i := 2) nd rfl (Or.inl rfl)) (pss_cons (ps_set (i := 3) nd rfl (Or.inl rfl) (pe_ifExp (pt_cmpR opInSg (pe_ix (ixK (K := K) rfl) (pv 2) (pe_int) (fun _ _ => rfl)) (pe_str) (by rfl)) (pe_callTy callINTS rfl g_int bt_int (pa_cons (pe_slice (slK (K := K) rfl) (pv 2) (po_some (pe_int)) po_none) (pa_nil))) (pe_int)))
 (pss_cons (ps_if (PW.pt (pw_or (pt_cmpR opNiSg (pe_ix (ixK (K := K) rfl) (pv 2) (pe_int) (fun _ _ => rfl)) (pe_str) (by rfl)) (pw_or1 (PW.pt (pw_and (pt_cmpR op_le (pe_callB (lenK (K := K) rfl) rfl g_len PySem.boot_len (pa_cons (pv 1) (pa_nil))) (pv 3) (nomark _)) (pw_and1 (pt_cmpR opInSg (pe_ix (ixK (K := K) rfl) (pv 2) (pe_int) (fun _ _ => rfl)) (pe_str) (by rfl)))))))) (pss_one (ps_ret (pe_non))) (pss_nil))
 (pss_one (ps_set (i := 1) nd rfl (Or.inl rfl) (pe_std S__law_step hr rfl (pa_cons (pv 1) (pa_cons (pv 2) (pa_cons (pe_ifExp (pt_cmpR opNiSg (pe_ix (ixK (K := K) rfl) (pv 2) (pe_int) (fun _ _ => rfl)) (pe_str) (by rfl)) (pe_callTy callINTS rfl g_int bt_int (pa_cons (pv 2) (pa_nil))) (pe_non)) (pa_nil))))))))))
 (pss_one (ps_ret (pv 1)))), ?_⟩
  refine body_x nm__law_done ?_ vs H Q E h
  clear h hr
  intro c n x hK hp
  (subst hK)
  try clear S__law_step g_int g_len F
  obtain ⟨ws, l, l'⟩ := x
  obtain ⟨hok, hr, hl⟩ : (∀ w ∈ ws, okWd w) ∧ RunK 60 l ws l' ∧ l.length ≤ 60 := hp
  dsimp only
  refine ws_seq (ws_for [2] (wi_list rfl ?_))
  walk_at "WK"
  refine ⟨fun i e1 => ∃ m s2 s3, (RunK 60 l (ws.take i) m ∧ RunK 60 m (ws.drop i) l' ∧ m.length ≤ 60) ∧ e1 = ⟨[.val (.py (.list (wtx ws))), .val (.py (.list (labs m))), s2, s3], n⟩, ⟨l, .emp, .emp, ⟨.nil l, hr, hl⟩, rfl⟩, ?_, ?_⟩
  · rintro i d e1 hd ⟨m, s2, s3, ⟨h1, h2, h3⟩, rfl⟩
    obtain ⟨w, hw, hwm, rfl⟩ := wtx_item hd
    have okw := hok w hwm
    have hi : i < ws.length := (List.getElem?_eq_some_iff.mp hw).1
    have ts : ws.take (i + 1) = ws.take i ++ [w] := by rw [List.take_add_one, hw]; rfl
    have ds : ws.drop i = w :: ws.drop (i + 1) := by
      have hl := (List.getElem?_eq_some_iff.mp hw)
      rw [← hl.2, List.getElem_cons_drop]
    rw [ds] at h2
    have hw33 := wd_len okw
    have l3 : w.tx.length ≤ sizeLine := by unfold Wd.tx; rw [sg_len]; exact Nat.le_trans hw33.2 (by rw [sizeLine_eq]; decide)
    cases h2 with
    | cons hs h2' =>
    rename_i m'
    have h1' : RunK 60 l (ws.take (i + 1)) m' := by rw [ts]; exact h1.append (.one hs)
    have h3' : m'.length ≤ 60 := (run_high hl _ _ h1').2.2.2
    have hs' := hs
    clear hd hw hwm ts ds
    refine wg_name ⟨rfl, ?_⟩ (Nat.le_of_ble_eq_true rfl) (by decide)
    cases hs with
    | d m' a =>
      walk_at "WK"
      first | refine ⟨l3, 100, at0 rfl, ?_⟩ | refine ⟨100, at0 rfl, ?_⟩
      walk_at "WK"
      refine rw_inSg ?_
      rw [pr_in, decide_eq_false (by omega)]
      walk_at "WK"
      refine ⟨fun z => (nomatch z), fun _ => ?_⟩
      walk_at "WK"
      first | refine ⟨l3, 100, at0 rfl, ?_⟩ | refine ⟨100, at0 rfl, ?_⟩
      walk_at "WK"
      refine rw_niSg ?_
      rw [all_in _ (by omega)]
      walk_at "WK"
      refine ⟨fun _ => ?_, fun z => (nomatch z)⟩
      walk_at "WK"
      rw [labs_len]
      refine ⟨fun z => absurd (of_decide_eq_true z) (by simp only [List.length_append, List.length_cons, List.length_nil]; omega), fun _ => ?_⟩
      refine ⟨fun z => (nomatch z), fun _ => ?_⟩
      walk_at "WK"
      first | refine ⟨l3, 100, at0 rfl, ?_⟩ | refine ⟨100, at0 rfl, ?_⟩
      walk_at "WK"
      refine rw_niSg ?_
      rw [prd_in, decide_eq_true (by omega)]
      walk_at "WK"
      refine ⟨fun z => (nomatch z), fun _ => ?_⟩
      walk_at "WK"
      refine ⟨(_, Wd.d, _), rfl, ⟨okw, hs', by assumption⟩, ?_⟩
      rintro d m ⟨rfl, rfl⟩
      refine ⟨rfl, rfl, ?_⟩
      exact ⟨_, _, _, ⟨h1', h2', h3'⟩, rfl⟩
    | p u a v lt =>
      have hv : v.length ≤ 98 := okw
      walk_at "WK"
      first | refine ⟨l3, 112, at0 rfl, ?_⟩ | refine ⟨112, at0 rfl, ?_⟩
      walk_at "WK"
      refine rw_inSg ?_
      rw [pr_in, decide_eq_true (by omega)]
      walk_at "WK"
      refine ⟨fun _ => ?_, fun z => (nomatch z)⟩
      walk_at "WK"
      refine ⟨l3, ?_⟩
      rw [cut_tail _ (show (Wd.p v.length).tx.cps.toList = 112 :: TL.numL v.length from rfl), ← txN_sg]
      walk_at "WK"
      refine cw_intS (one_mk ⟨_, _, rfl, txN_int (show v.length < 10 ^ 200 by omega), Nat.le_trans (txN_le (k := 31) (by decide) (show v.length < 10 ^ 31 by omega)) (by decide), ?_⟩)
      walk_at "WK"
      first | refine ⟨l3, 112, at0 rfl, ?_⟩ | refine ⟨112, at0 rfl, ?_⟩
      walk_at "WK"
      refine rw_niSg ?_
      rw [all_in _ (by omega)]
      walk_at "WK"
      refine ⟨fun _ => ?_, fun z => (nomatch z)⟩
      walk_at "WK"
      rw [labs_len]
      refine ⟨fun z => absurd (of_decide_eq_true z) (by simp only [List.length_append, List.length_cons, List.length_nil]; omega), fun _ => ?_⟩
      refine ⟨fun z => (nomatch z), fun _ => ?_⟩
      walk_at "WK"
      first | refine ⟨l3, 112, at0 rfl, ?_⟩ | refine ⟨112, at0 rfl, ?_⟩
      walk_at "WK"
      refine rw_niSg ?_
      rw [prd_in, decide_eq_true (by omega)]
      walk_at "WK"
      refine ⟨fun z => (nomatch z), fun _ => ?_⟩
      walk_at "WK"
      refine ⟨(_, Wd.p v.length, _), rfl, ⟨okw, hs', by assumption⟩, ?_⟩
      rintro d m ⟨rfl, rfl⟩
      refine ⟨rfl, rfl, ?_⟩
      exact ⟨_, _, _, ⟨h1', h2', h3'⟩, rfl⟩
    | r u a v =>
      have hv : 1 ≤ v.length ∧ v.length ≤ 99 := okw
      walk_at "WK"
      first | refine ⟨l3, 114, at0 rfl, ?_⟩ | refine ⟨114, at0 rfl, ?_⟩
      walk_at "WK"
      refine rw_inSg ?_
      rw [pr_in, decide_eq_true (by omega)]
      walk_at "WK"
      refine ⟨fun _ => ?_, fun z => (nomatch z)⟩
      walk_at "WK"
      refine ⟨l3, ?_⟩
      rw [cut_tail _ (show (Wd.r v.length).tx.cps.toList = 114 :: TL.numL v.length from rfl), ← txN_sg]
      walk_at "WK"
      refine cw_intS (one_mk ⟨_, _, rfl, txN_int (show v.length < 10 ^ 200 by omega), Nat.le_trans (txN_le (k := 31) (by decide) (show v.length < 10 ^ 31 by omega)) (by decide), ?_⟩)
      walk_at "WK"
      first | refine ⟨l3, 114, at0 rfl, ?_⟩ | refine ⟨114, at0 rfl, ?_⟩
      walk_at "WK"
      refine rw_niSg ?_
      rw [all_in _ (by omega)]
      walk_at "WK"
      refine ⟨fun _ => ?_, fun z => (nomatch z)⟩
      walk_at "WK"
      rw [labs_len]
      refine ⟨fun z => absurd (of_decide_eq_true z) (by simp only [List.length_append, List.length_cons, List.length_nil]; omega), fun _ => ?_⟩
      refine ⟨fun z => (nomatch z), fun _ => ?_⟩
      walk_at "WK"
      first | refine ⟨l3, 114, at0 rfl, ?_⟩ | refine ⟨114, at0 rfl, ?_⟩
      walk_at "WK"
      refine rw_niSg ?_
      rw [prd_in, decide_eq_true (by omega)]
      walk_at "WK"
      refine ⟨fun z => (nomatch z), fun _ => ?_⟩
      walk_at "WK"
      refine ⟨(_, Wd.r v.length, _), rfl, ⟨okw, hs', by assumption⟩, ?_⟩
      rintro d m ⟨rfl, rfl⟩
      refine ⟨rfl, rfl, ?_⟩
      exact ⟨_, _, _, ⟨h1', h2', h3'⟩, rfl⟩
    | c m v lt =>
      have hv : -(10 ^ 30) ≤ v ∧ v ≤ 10 ^ 30 := okw
      obtain ⟨ch, r, ew, hch⟩ := wc_head v
      walk_at "WK"
      first | refine ⟨l3, ch, at0 ew, ?_⟩ | refine ⟨ch, at0 ew, ?_⟩
      walk_at "WK"
      refine rw_inSg ?_
      rw [pr_in, decide_eq_false (by omega)]
      walk_at "WK"
      refine ⟨fun z => (nomatch z), fun _ => ?_⟩
      walk_at "WK"
      first | refine ⟨l3, ch, at0 ew, ?_⟩ | refine ⟨ch, at0 ew, ?_⟩
      walk_at "WK"
      refine rw_niSg ?_
      rw [all_in _ (by omega)]
      walk_at "WK"
      refine ⟨fun _ => ?_, fun z => (nomatch z)⟩
      walk_at "WK"
      rw [labs_len]
      refine ⟨fun _ => ?_, fun _ => ?_⟩
      · walk_at "WK"
        first | refine ⟨l3, ch, at0 ew, ?_⟩ | refine ⟨ch, at0 ew, ?_⟩
        walk_at "WK"
        refine rw_inSg ?_
        rw [prd_in, decide_eq_false (by omega)]
        walk_at "WK"
        refine ⟨fun z => (nomatch z), fun _ => ?_⟩
        walk_at "WK"
        refine ⟨l3, ch, at0 ew, ?_⟩
        walk_at "WK"
        refine rw_niSg ?_
        rw [prd_in, decide_eq_false (by omega)]
        walk_at "WK"
        refine ⟨fun _ => ?_, fun z => (nomatch z)⟩
        walk_at "WK"
        refine cw_intS (one_mk ⟨_, _, rfl, wc_int hv, by unfold Wd.tx; rw [sg_len]; omega, ?_⟩)
        walk_at "WK"
        refine ⟨(_, Wd.c v, _), rfl, ⟨okw, hs', by assumption⟩, ?_⟩
        rintro d m ⟨rfl, rfl⟩
        refine ⟨rfl, rfl, ?_⟩
        exact ⟨_, _, _, ⟨h1', h2', h3'⟩, rfl⟩
      · refine ⟨fun z => (nomatch z), fun _ => ?_⟩
        walk_at "WK"
        refine ⟨l3, ch, at0 ew, ?_⟩
        walk_at "WK"
        refine rw_niSg ?_
        rw [prd_in, decide_eq_false (by omega)]
        walk_at "WK"
        refine ⟨fun _ => ?_, fun z => (nomatch z)⟩
        walk_at "WK"
        refine cw_intS (one_mk ⟨_, _, rfl, wc_int hv, by unfold Wd.tx; rw [sg_len]; omega, ?_⟩)
        walk_at "WK"
        refine ⟨(_, Wd.c v, _), rfl, ⟨okw, hs', by assumption⟩, ?_⟩
        rintro d m ⟨rfl, rfl⟩
        refine ⟨rfl, rfl, ?_⟩
        exact ⟨_, _, _, ⟨h1', h2', h3'⟩, rfl⟩
  · rintro e1 ⟨m, s2, s3, ⟨h1, h2, h3⟩, rfl⟩
    rw [List.length_map, wtx_len, List.drop_length] at h2
    cases h2
    walk_at "WK"
    first | exact ⟨rfl, rfl⟩ | exact rfl
end
end Wx

/-! ### part Zy -/
set_option Elab.async false
set_option linter.all false
set_option maxRecDepth 100000
set_option maxHeartbeats 2000000
set_option autoImplicit false
/-! t[::-1], t a tuple. -/
namespace L2
open PySem PySem.Spec PyProof.Rows HT
section
variable {prog : Program} {w : World} {A : Around} {E : Value → Shared → Prop} {s : Shared}
theorem sliceApplied_rev {sl : Addr} {vl vu vs : Value} {n : Nat} {Q : Int × Int × Nat → Shared → Prop} (hs : s.heap.IsSliceOf sl vl vu vs) (pl : IsPart vl none) (pu : IsPart vu none) (ps : IsPart vs (some (-1)))
    (h : Q ((n : Int) - 1, -1, n) s) : wpAny (model prog w) A (Builtin.Slice.sliceApplied (.ref sl) (pure (n : Int))) Q E s := by
  obtain ⟨os, hos, hcs, hds⟩ := id hs
  unfold Builtin.Slice.sliceApplied Builtin.Slice.sliceFields
  refine wpAny_bind (wpAny_bind (wpAny_field hos hds (x := vl) rfl (wpAny_bind (wpAny_field hos hds (x := vu) rfl (wpAny_bind (wpAny_field hos hds (x := vs) rfl (wpAny_pure ?_)))))))
  refine wpAny_bind (slicePart_ ps ?_)
  show wpAny _ _ (if ((-1 : Int) == 0) = true then _ else _) _ _ s
  rw [if_neg (by decide)]
  refine wpAny_bind (slicePart_ pl (wpAny_bind (slicePart_ pu (wpAny_bind (wpAny_pure ?_)))))
  show wpAny _ _ (match Builtin.Slice.sliceAdjust none none (-1) (n : Int) with | (lo, hi) => pure (lo, (-1 : Int), Builtin.Slice.slicePlaces lo hi (-1))) _ _ s
  have e1 : Builtin.Slice.sliceAdjust none none (-1) (n : Int) = ((n : Int) - 1, -1) := by
    unfold Builtin.Slice.sliceAdjust
    have h1 : ((-1 : Int) < 0) := by omega
    simp only [h1, if_true]
  rw [e1]
  have e2 : Builtin.Slice.slicePlaces ((n : Int) - 1) (-1) (-1) = n := by
    unfold Builtin.Slice.slicePlaces
    have h1 : ¬ ((-1 : Int) > 0) := by omega
    simp only [h1, if_false, Int.neg_neg, Int.ediv_one]
    split <;> omega
  show wpAny _ _ (pure ((n : Int) - 1, (-1 : Int), Builtin.Slice.slicePlaces ((n : Int) - 1) (-1) (-1))) _ _ s
  rw [e2]
  exact wpAny_pure h
theorem pick_rev (xs : Array Value) : ((List.range xs.size).filterMap fun (m : Nat) => xs[(((xs.size : Int) - 1) + (m : Int) * -1).toNat]?).toArray = xs.toList.reverse.toArray := by
  congr 1
  have w : ∀ k, k ≤ xs.size → ((List.range k).filterMap fun (m : Nat) => xs[(((xs.size : Int) - 1) + (m : Int) * -1).toNat]?) = (xs.toList.drop (xs.size - k)).reverse := fun k => by
    induction k with
    | zero => intro _; simp
    | succ k ih =>
      intro hk
      rw [List.range_succ, List.filterMap_append, ih (by omega)]
      have e : (((xs.size : Int) - 1) + (k : Int) * -1).toNat = xs.size - (k + 1) := by omega
      have hg : xs[xs.size - (k + 1)]? = some (xs[xs.size - (k + 1)]'(by omega)) := Array.getElem?_eq_getElem _
      have hd : xs.toList.drop (xs.size - (k + 1)) = xs[xs.size - (k + 1)]'(by omega) :: xs.toList.drop (xs.size - k) := by
        have h2 : xs.size - k = xs.size - (k + 1) + 1 := by omega
        rw [h2, ← Array.getElem_toList, List.getElem_cons_drop]
      have hf : ([k].filterMap fun (m : Nat) => xs[(((xs.size : Int) - 1) + (m : Int) * -1).toNat]?) = [xs[xs.size - (k + 1)]'(by omega)] := by
        rw [List.filterMap_cons, e, hg]
        rfl
      rw [hd, List.reverse_cons, hf]
  have := w xs.size (Nat.le_refl _)
  rw [Nat.sub_self, List.drop_zero] at this
  exact this
theorem getItem_tuple_rev {t sl : Addr} {items : Array Value} {vl vu vs : Value} {Q : Value → Shared → Prop} (ht : IsTup s.heap t items) (hs : s.heap.IsSliceOf sl vl vu vs) (pl : IsPart vl none) (pu : IsPart vu none) (ps : IsPart vs (some (-1)))
    (h : Q (.ref s.heap.objs.size) { s with heap := s.heap.push { cls := .type "tuple", data := .seq items.toList.reverse.toArray } })
    (hsz : items.size ≤ sizeLine) : wpAny (model prog w) A (getItem (.ref t) (.ref sl)) Q E s := by
  have htake : sizeOk (.seq items.toList.reverse.toArray) := by
    show items.toList.reverse.toArray.size ≤ sizeLine
    rw [List.size_toArray, List.length_reverse, Array.length_toList]
    exact hsz
  obtain ⟨os, hos, hcs, hds⟩ := id hs
  have hTs : s.TypeIs (.ref sl) "slice" := ⟨os, hos, hcs⟩
  unfold getItem
  try with_reducible refine wpAny_holding ?_
  first | refine wpAny_bind (wpAny_pure ?_) | skip
  refine wpAny_bind (wpAny_sequenceKey ht.typeIs (by decide) ?_)
  refine wpAny_bind (wpAny_callSpecial?_slot (name := Str.ofString "__getitem__") ht.typeIs PyProof.Rows.slot_tuple_getitem
    (wpAny_call_entry PyProof.Rows.slot_tuple_getitem ht.typeIs entry_tuple_getitem ?_ (args_tuple_getitem _ _)))
  show wpAny _ _ (Builtin.Tuple.tupleItemsOf (.ref t) >>= _) _ _ s
  refine wpAny_bind (tupleItemsOf_ ht ?_)
  refine wpAny_bind (wpAny_typeOf hTs ?_)
  rw [if_pos (by decide)]
  refine wpAny_bind (sliceApplied_rev (n := items.size) hs pl pu ps ?_)
  have hno : ¬ ((((items.size : Int) - 1) == 0 && (-1 : Int) == 1 && items.size == items.size) = true) := by simp
  show wpAny _ _ (if (((items.size : Int) - 1) == 0 && (-1 : Int) == 1 && items.size == items.size) = true then _ else _) _ _ s
  rw [if_neg hno, pick_rev]
  first
    | exact wpAny_bind (m := Builtin.Tuple.tupleExact _) (wpAny_newObj_type (wpAny_pure ⟨_, rfl, wpAny_pure h⟩) htake)
    | exact wpAny_bind (m := Builtin.Tuple.tupleExact _) (wpAny_newObj_type (wpAny_bind (wpAny_pure (wpAny_pure ⟨_, rfl, wpAny_pure h⟩))) htake)
    | exact wpAny_bind (wpAny_bind (m := Builtin.Tuple.tupleExact _) (wpAny_newObj_type (wpAny_pure (wpAny_pure ⟨_, rfl, wpAny_pure h⟩)) htake))
    | exact wpAny_bind (wpAny_bind (m := Builtin.Tuple.tupleExact _) (wpAny_newObj_type (wpAny_pure ⟨_, rfl, wpAny_pure h⟩) htake))
end
section
variable {X : Cx}
def tRevT (K : PySem.W.Frag) (te : TE) : TE := fun σ H Q => te σ H fun x H1 => ∃ a xs, x = .ref a ∧ SqT K H1 a xs ∧ ∀ p, H1 p = none → Q (.ref p) (upd H1 p (.tup xs.reverse))
theorem pe_revT {e : Expr} {te : TE} {k : Nat} {p1 p2 p3 pos : Pos} {K : PySem.W.Frag} (hK : X.K = K) (he : PE X e te) : PE X (.Subscript e (.Slice none none (some (.UnaryOp .USub (.Constant (.int 1) k p1) p2)) p3) pos) (tRevT K te) := by
  subst hK
  refine ⟨fun pins s σ H Q I h => ?_⟩
  refine Subscript_ (thn (he.run pins s σ H _ I h) fun v s1 ⟨x, H1, I1, r1, q1⟩ => ?_)
  obtain ⟨a, xs, ex, hx, q⟩ := q1
  subst ex
  cases r1
  have hst : PO X (some (.UnaryOp .USub (.Constant (.int 1) k p1) p2)) (tPart (tUn (rU fun i => .int (-i)) (tC (.int 1)))) := po_some (pe_un un_neg pe_int)
  refine wpAny_Slice (thn (po_none.run pins s1 σ H1 (fun o H2 => o = none ∧ H2 = H1) I1 ⟨rfl, rfl⟩) fun vl s2 ⟨l, H2, I2, pl, el, e2⟩ => ?_)
  subst el e2
  refine thn (po_none.run pins s2 σ H2 (fun o H3 => o = none ∧ H3 = H2) I2 ⟨rfl, rfl⟩) fun vu s3 ⟨u, H3, I3, pu, eu, e3⟩ => ?_
  subst eu e3
  refine thn (hst.run pins s3 σ H3 (fun o H4 => o = some (-1) ∧ H4 = H3) I3 ⟨1, rfl, -1, rfl, rfl, rfl⟩) fun vs s4 ⟨o, H4, I4, ps, eo, e4⟩ => ?_
  subst eo e4
  have I5 : Inv X pins σ H4 { s4 with heap := s4.heap.push { cls := .type "slice", data := .fields #[vl, vu, vs] } } := I4.kept (t' := s4.toks) fun b ob q => Heap.get?_push_of_some _ q
  obtain ⟨its, r, ht, hz⟩ := I5.tuple hx
  have hlen := r.length
  show wpAny (model X.prog X.w) X.A (subscriptTail e (.Slice none none (some (.UnaryOp .USub (.Constant (.int 1) k p1) p2)) p3) (.ref a) (.ref s4.heap.objs.size)) (EP X pins σ Q) X.xe { s4 with heap := s4.heap.push { cls := .type "slice", data := .fields #[vl, vu, vs] } }
  refine tail_any (ops := [.ref a, .ref s4.heap.objs.size]) ht.typeIs (PyProof.Rows.slot_tuple_getitem.lookup) ?_ (by with_unfolding_all rfl)
  refine getItem_tuple_rev ht (Heap.IsSliceOf.new _ vl vu vs) pl pu ps ?_ (by rw [List.size_toArray]; omega)
  refine ⟨.ref _, _, I5.laid (t' := s4.toks) (o := .tup xs.reverse) (fun b ob q => Heap.get?_push_of_some _ q) (Nat.le_refl _) ?_, rfl, q _ (I5.hok.fresh (Nat.le_refl _))⟩
  exact ⟨by rw [List.length_reverse]; exact hz, its.reverse, r.reverse, by
    have e : its.toArray.toList.reverse.toArray = its.reverse.toArray := by simp
    rw [e]
    exact IsTup.new _ _⟩
end
end L2
namespace Wx
open PySem L2
section
variable {c : Cy} {sl : List Slo} {nn n : Nat} {te : TE} {Φ : D → Nat → Prop} {K : PySem.W.Frag}
theorem wp_revT (hK : K = c.K) (h : Wp c te ⟨sl, nn⟩ fun d n => ∃ ds, d = .py (.tuple ds) ∧ Φ (.py (.tuple ds.reverse)) n) : Wp c (tRevT K te) ⟨sl, nn⟩ Φ := ⟨fun σ A H o Q k => by
  subst hK
  refine h.run σ A H o _ fun v H1 d n p e1 g1 x => ?_
  obtain ⟨ds, rfl, q⟩ := p
  obtain ⟨a, xs, rfl, hs, t⟩ := Da.tuple_at x
  have o1 := o.keep e1 g1
  exact ⟨a, xs, rfl, hs, fun r hr => k (.ref r) _ _ n q (e1.trans (Ek.new hr)) (g1.new hr) (.tup (o1.fresh hr) (.inl upd_same) (t.rev.new hr))⟩⟩
end
end Wx

/-! ### part X4 -/
set_option Elab.async false
set_option linter.all false
set_option maxRecDepth 100000
set_option maxHeartbeats 1000000
set_option autoImplicit false
namespace Wx
open PySem L2

def someK : List Key := [.inr "a", .inr "b", .inr "c", .inl 1, .inl 2, .inr (Txt.mul "a" 8), .inr "zz", .inl 0, .inl (10 ^ 30), .inl (0 - 10 ^ 30)]
instance (s : Str) : Decidable (symOk s) := by unfold symOk; infer_instance
instance (k : Key) : Decidable (okLab k) := by
  cases k with
  | inl i => exact (inferInstance : Decidable (-(10 ^ 30) ≤ i ∧ i ≤ 10 ^ 30))
  | inr s => exact (inferInstance : Decidable (symOk s))
theorem someK_ok : ∀ k ∈ someK, okLab k := by decide +kernel
theorem join_cps : ∀ cs : List Nat, (Txt.join (Str.ofString "") (cs.map fun ch => (⟨#[ch]⟩ : Str))).cps.toList = cs := fun cs => by
  show (Builtin.Str.glued (Str.ofString "") (cs.map fun ch => (⟨#[ch]⟩ : Str))).cps.toList = cs
  rw [StrLaws.glued_eq_join]
  induction cs with
  | nil => rfl
  | cons a r ih =>
    cases r with
    | nil => rfl
    | cons b r =>
      show ((⟨#[a]⟩ : Str) ++ Str.ofString "" ++ Str.join (Str.ofString "") ((b :: r).map fun ch => (⟨#[ch]⟩ : Str))).cps.toList = _
      have app : ∀ x y : Str, (x ++ y).cps.toList = x.cps.toList ++ y.cps.toList := fun x y => by
        show (x.cps ++ y.cps).toList = _
        simp
      rw [app, app, ih]
      rfl
theorem join_sym {cs : List Nat} (h0 : 1 ≤ cs.length) (h1 : cs.length ≤ 8) (h : ∀ ch ∈ cs, ch ∈ abc.cps.toList) : symOk (Txt.join (Str.ofString "") (cs.map fun ch => (⟨#[ch]⟩ : Str))) := by
  have e := join_cps cs
  have l : (Txt.join (Str.ofString "") (cs.map fun ch => (⟨#[ch]⟩ : Str))).length = cs.length := by
    show (Txt.join (Str.ofString "") (cs.map fun ch => (⟨#[ch]⟩ : Str))).cps.size = _
    rw [← Array.length_toList, e]
  unfold symOk
  rw [l, e]
  exact ⟨h0, h1, h⟩
theorem lab_pick {l : List Key} {r : Int} (h0 : 0 ≤ r) (h1 : r < l.length) : ∃ k, k ∈ l ∧ atI (labs l) r = some (lab k) := by
  obtain ⟨j, rfl⟩ := Int.eq_ofNat_of_zero_le h0
  have h2 : j < l.length := by omega
  exact ⟨l[j], List.getElem_mem _, labs_at (List.getElem?_eq_getElem h2)⟩
section
variable {P : Program} {w : World} {K : PySem.W.Frag} {mg : Str → Option Value} {base : Heap} {f C : Addr} {fd : FuncData}
abbrev sp__law_label (K : PySem.W.Frag) : Sp := SpX (ι := Int) K (fun s => [.kln, .py (.int s)]) (fun s n => 0 ≤ s ∧ s ≤ 2 ∧ n < 2 ^ 90) fun _ n d m => (∃ k, d = .py (lab k) ∧ okLab k) ∧ m ≤ n + 12
theorem ln__law_label (s : Int) : [D.kln, .py (.int s)].length = 2 := rfl
theorem nm__law_label (s : Int) : [D.kln, .py (.int s)].all D.nm = true := rfl
theorem sc__law_label : FnScope ["jar", "style", "some", "name", "turn"] ["jar", "style"] (defScope (top 59)) := ⟨rfl, rfl, rfl, by decide +kernel, rfl, by decide +kernel, by decide +kernel⟩
theorem ok__law_label (F : FnP K "_law_label" "_law_label" (top 59) f fd) (S__law_ladle : Std P w K mg base 1 "_law_ladle" ["jar", "many"] (sp__law_ladle K)) (g_range : mg "range" = none) : FnOk P w K mg base CX0 2 f fd ["jar", "style"] (sp__law_label K) := by
  refine F.ok sc__law_label (sx_len ln__law_label) (fun cdv A outer s H vs Q E hr h => ?_)
  have nd := sc__law_label.nd
  refine ⟨_, PSs.nox (pss_cons (ps_set (i := 2) nd rfl (Or.inl rfl) (pe_lst (pa_cons (pe_str) (pa_cons (pe_str) (pa_cons (pe_str) (pa_cons (pe_int) (pa_cons (pe_int) (pa_cons (pe_op op_mulS (pe_str) (pe_int)) (pa_cons (pe_str) (pa_cons (pe_int) (pa_cons (pe_op opPOW (pe_int) (pe_int)) (pa_cons (pe_op op_sub (pe_int) (pe_op opPOW (pe_int) (pe_int))) (pa_nil)))))))))))))
 (pss_cons (ps_if (pt_cmpR (eqK (K := K) rfl (room64 hr)) (pv 1) (pe_int) (nomark _)) (pss_one (ps_ret (pe_ix (ixK (K := K) rfl) (pv 2) (pe_std S__law_ladle hr rfl (pa_cons (pv 0) (pa_cons (pe_int) (pa_nil)))) (fun _ _ => rfl)))) (pss_nil))
 (pss_cons (ps_if (pt_cmpR (eqK (K := K) rfl (room64 hr)) (pv 1) (pe_int) (nomark _)) (pss_one (ps_ret (pe_ix (ixK (K := K) rfl) (pv 2) (pe_std S__law_ladle hr rfl (pa_cons (pv 0) (pa_cons (pe_int) (pa_nil)))) (fun _ _ => rfl)))) (pss_nil))
 (pss_cons (ps_set (i := 3) nd rfl (Or.inl rfl) (pe_joinK (K := K) rfl (pe_str) (pe_lc (own := [("turn", 4)]) rfl nd (pi_range1 rfl g_range (pa_cons (pe_op (addK (K := K) rfl) (pe_int) (pe_std S__law_ladle hr rfl (pa_cons (pv 0) (pa_cons (pe_int) (pa_nil))))) (pa_nil))) (blkOk_by (N := ["jar", "style", "some", "name", "turn"]) (sc := (defScope (top 59))) (by decide +kernel)) (fun _ _ _ _ _ => pg_name (i := 4) nd rfl (Or.inl rfl) (.inr rfl)) (fun _ _ _ _ _ => pts_nil) (fun _ _ _ _ _ => pe_ix (ixK (K := K) rfl) (pe_str) (pe_std S__law_ladle hr rfl (pa_cons (pv 0) (pa_cons (pe_int) (pa_nil)))) (fun _ _ => rfl)))))
 (pss_one (ps_ret (pe_ix (ixK (K := K) rfl) (pe_lst (pa_cons (pv 3) (pa_cons (pe_op op_sub (pe_std S__law_ladle hr rfl (pa_cons (pv 0) (pa_cons (pe_op opPOW (pe_int) (pe_int)) (pa_nil)))) (pe_op opPOW (pe_int) (pe_int))) (pa_nil)))) (pe_std S__law_ladle hr rfl (pa_cons (pv 0) (pa_cons (pe_int) (pa_nil)))) (fun _ _ => rfl)))))))), ?_⟩
  refine body_x nm__law_label ?_ vs H Q E h
  clear h hr
  intro c n x hK hp
  (subst hK)
  try clear S__law_ladle g_range F
  obtain ⟨h0, h1, hn⟩ : 0 ≤ x ∧ x ≤ 2 ∧ n < 2 ^ 90 := hp
  walk_at "WK"
  refine rw_mulS ⟨by decide, fun _ _ => by decide +kernel, fun _ _ => by decide +kernel⟩ ?_
  walk_at "WK"
  have p30 : (10 : Int) ^ Int.toNat 30 = 10 ^ 30 := by decide +kernel
  have p29 : (10 : Int) ^ Int.toNat 29 = 10 ^ 29 := by decide +kernel
  rw [p30]
  refine ⟨fun q0 => ?_, fun q0 => ?_⟩
  · show Ws c _ ⟨[.val .kln, .val (.py (.int x)), .val (.py (.list (labs someK))), .emp, .emp], n⟩ _
    walk_at "WK"
    refine ⟨_, rfl, by decide, by decide, by omega, fun r a b => ?_⟩
    obtain ⟨k, hk, e⟩ := lab_pick (l := someK) a (Int.lt_of_lt_of_le b (by decide))
    walk_at "WK"
    refine ⟨_, e, ?_⟩
    exact ⟨⟨k, rfl, someK_ok k hk⟩, by omega⟩
  show Ws c _ ⟨[.val .kln, .val (.py (.int x)), .val (.py (.list (labs someK))), .emp, .emp], n⟩ _
  walk_at "WK"
  refine ⟨fun q1 => ?_, fun q1 => ?_⟩
  · walk_at "WK"
    refine ⟨_, rfl, by decide, by decide, by omega, fun r a b => ?_⟩
    obtain ⟨k, hk, e⟩ := lab_pick (l := someK) a (Int.lt_of_lt_of_le b (by decide))
    walk_at "WK"
    refine ⟨_, e, ?_⟩
    exact ⟨⟨k, rfl, someK_ok k hk⟩, by omega⟩
  walk_at "WK"
  refine wp_join rfl ?_
  walk_at "WK"
  refine ⟨_, rfl, ?_⟩
  refine wp_new (wn_lc (fun v hv => ?_) (wi_rng1 ?_))
  · have : v = 4 := by simpa using hv
    subst this
    exact Nat.le_of_ble_eq_true rfl
  walk_at "WK"
  refine ⟨_, rfl, by decide, by decide, by omega, fun r a b => ?_⟩
  walk_at "WK"
  refine ⟨by omega, by omega, fun i acc m => m = n + 1 + i ∧ ∃ cs : List Nat, cs.length = i ∧ acc = (cs.map fun ch => (⟨#[ch]⟩ : Str)).map PyData.str ∧ ∀ ch ∈ cs, ch ∈ abc.cps.toList, ⟨rfl, [], rfl, rfl, fun _ z => nomatch z⟩, by rw [seqI_len]; omega, ?_, ?_⟩
  · rintro i acc m d hd ⟨rfl, cs, hl, rfl, hc⟩
    obtain ⟨hi, rfl⟩ := seqI_of hd
    refine wg_name ⟨rfl, ?_⟩ (Nat.le_of_ble_eq_true rfl) (by decide)
    refine wt_yes ⟨fun _ => ?_, fun z => nomatch z⟩
    walk_at "WK"
    refine ⟨_, rfl, by decide, by decide, by (try dsimp only); omega, fun r2 a2 b2 => ?_⟩
    walk_at "WK"
    obtain ⟨j, rfl⟩ := Int.eq_ofNat_of_zero_le a2
    have h2 : j < abc.cps.toList.length := Int.ofNat_lt.mp b2
    refine ⟨abc.cps.toList[j], atI_nat (List.getElem?_eq_getElem h2), ?_⟩
    refine ⟨by (try dsimp only); omega, cs ++ [abc.cps.toList[j]], by rw [List.length_append, hl]; rfl, ?_, fun ch hh => ?_⟩
    · rw [List.map_append, List.map_append]
      rfl
    · rcases List.mem_append.mp hh with q | q
      · exact hc ch q
      · rw [List.mem_singleton.mp q]; exact List.getElem_mem _
  · rintro acc m ⟨rfl, cs, hl, rfl, hc⟩
    rw [seqI_len] at hl
    refine ⟨_, rfl, ?_, ?_⟩
    · rw [List.map_map, List.length_map, show (Str.ofString "").length = 0 from by decide]
      have e : (cs.map ((fun x : Str => x.length) ∘ fun ch => (⟨#[ch]⟩ : Str))).sum = cs.length := by
        clear hl hc
        induction cs with
        | nil => rfl
        | cons q qs ih => rw [List.map_cons, List.sum_cons, ih, List.length_cons]; show 1 + _ = _; omega
      rw [e]
      omega
    have hs := join_sym (cs := cs) (by omega) (by omega) hc
    generalize Txt.join (Str.ofString "") (cs.map fun ch => (⟨#[ch]⟩ : Str)) = name at *
    rw [seqI_len]
    walk_at "WK"
    rw [p30]
    refine ⟨_, rfl, by decide, by decide +kernel, by omega, fun r2 a2 b2 => ?_⟩
    walk_at "WK"
    rw [p29]
    refine ⟨_, rfl, by decide, by decide, by omega, fun r3 a3 b3 => ?_⟩
    obtain ⟨k, hk, e⟩ := lab_pick (l := [.inr name, .inl (r2 - 10 ^ 29)]) a3 b3
    walk_at "WK"
    refine ⟨_, e, ?_⟩
    refine ⟨⟨k, rfl, ?_⟩, by omega⟩
    rcases List.mem_cons.mp hk with rfl | hk
    · exact hs
    · rw [List.mem_singleton.mp hk]
      show -(10 ^ 30) ≤ r2 - 10 ^ 29 ∧ r2 - 10 ^ 29 ≤ 10 ^ 30
      omega
end
end Wx

/-! ### part X5 -/
set_option Elab.async false
set_option linter.all false
set_option maxRecDepth 100000
set_option maxHeartbeats 1000000
set_option autoImplicit false
namespace Wx
open PySem L2

theorem at2K {i j r : Int} (p : Int → Prop) (hi : p i) (hj : p j) (h0 : 0 ≤ r) (h1 : r < 2) : ∃ v, atI [PyData.int i, .int j] r = some (.int v) ∧ p v := by
  have q : r = 0 ∨ r = 1 := by omega
  rcases q with rfl | rfl
  · exact ⟨i, rfl, hi⟩
  · exact ⟨j, rfl, hj⟩
theorem at4K {i j k l r : Int} (p : Int → Prop) (hi : p i) (hj : p j) (hk : p k) (hl : p l) (h0 : 0 ≤ r) (h1 : r < 4) : ∃ v, atI [PyData.int i, .int j, .int k, .int l] r = some (.int v) ∧ p v := by
  have q : r = 0 ∨ r = 1 ∨ r = 2 ∨ r = 3 := by omega
  rcases q with rfl | rfl | rfl | rfl
  · exact ⟨i, rfl, hi⟩
  · exact ⟨j, rfl, hj⟩
  · exact ⟨k, rfl, hk⟩
  · exact ⟨l, rfl, hl⟩
theorem shp_listK {l : List Key} (h : ∀ k ∈ l, gdK k = true) : SeqAt.shaped (.list (labs l)) = true := by
  obtain ⟨h1, h2⟩ := shpA_lab h
  unfold SeqAt.shaped
  rw [Bool.and_eq_true]
  exact ⟨by rw [PyData.canLay0]; exact h1, decide_eq_true (by rw [PyData.depth]; omega)⟩
theorem eqv_listK (l m : List Key) : PyData.eqv (.list (labs l)) (.list (labs m)) = decide (l = m) := by rw [PyData.eqv]; exact eqvAll_lab l m
theorem cut_toA {α : Type} (xs : List α) (i : Nat) : cutD xs none (some (i : Int)) = xs.take i := by
  unfold cutD
  rw [HT.sIx_nat, HT.sIx_none]
  simp
section
variable {P : Program} {w : World} {K : PySem.W.Frag} {mg : Str → Option Value} {base : Heap} {f C : Addr} {fd : FuncData}
abbrev sp__law_piles (K : PySem.W.Frag) : Sp := SpX (ι := Int) K (fun s => [.kln, .py (.int s)]) (fun s n => 0 ≤ s ∧ s ≤ 60 ∧ n < 2 ^ 80) fun _ n d m => (∃ pl goal, d = .py (.tuple [pile pl, pile goal]) ∧ okPl pl ∧ okPl goal) ∧ m ≤ n + 5000
theorem ln__law_piles (s : Int) : [D.kln, .py (.int s)].length = 2 := rfl
theorem nm__law_piles (s : Int) : [D.kln, .py (.int s)].all D.nm = true := rfl
theorem sc__law_piles : FnScope ["jar", "most", "pile_here", "often", "turn", "style", "many", "goal", "way", "label"] ["jar", "most"] (defScope (top 60)) := ⟨rfl, rfl, rfl, by decide +kernel, rfl, by decide +kernel, by decide +kernel⟩
theorem ok__law_piles (F : FnP K "_law_piles" "_law_piles" (top 60) f fd) (S__law_ladle : Std P w K mg base 1 "_law_ladle" ["jar", "many"] (sp__law_ladle K)) (S__law_label : Std P w K mg base 2 "_law_label" ["jar", "style"] (sp__law_label K)) (g_range : mg "range" = none) (g_len : mg "len" = none) (g_tuple : mg "tuple" = none) : FnOk P w K mg base CX0 3 f fd ["jar", "most"] (sp__law_piles K) := by
  refine F.ok sc__law_piles (sx_len ln__law_piles) (fun cdv A outer s H vs Q E hr h => ?_)
  have nd := sc__law_piles.nd
  refine ⟨_, PSs.nox (pss_cons (ps_asg (pe_tup (pa_cons (pe_std S__law_ladle (hr.mono (by decide)) rfl (pa_cons (pv 0) (pa_cons (pe_int) (pa_nil)))) (pa_cons (pe_ix (ixK (K := K) rfl) (pe_lst (pa_cons (pe_std S__law_ladle (hr.mono (by decide)) rfl (pa_cons (pv 0) (pa_cons (pe_op (addK (K := K) rfl) (pv 1) (pe_int)) (pa_nil)))) (pa_cons (pv 1) (pa_nil)))) (pe_std S__law_ladle (hr.mono (by decide)) rfl (pa_cons (pv 0) (pa_cons (pe_int) (pa_nil)))) (fun _ _ => rfl)) (pa_nil)))) (gtupK (K := K) (n := 2) rfl rfl (pgs_cons (pg_name (i := 5) nd rfl (Or.inr rfl)) (pgs_cons (pg_name (i := 6) nd rfl (Or.inl rfl)) (pgs_nil)))))
 (pss_cons (ps_setLc (i := 2) (own := [("turn", 4)]) rfl nd rfl rfl (sw_true rfl rfl rfl (by decide +kernel)) (pi_range1 rfl g_range (pa_cons (pv 6) (pa_nil))) (blkOk_by (N := ["jar", "most", "pile_here", "often", "turn", "style", "many", "goal", "way", "label"]) (sc := (defScope (top 60))) (by decide +kernel)) (fun _ _ _ _ _ => pg_name (i := 4) nd rfl (Or.inl rfl) (.inr rfl)) (fun _ _ _ _ _ => pts_nil) (fun _ _ _ _ _ => pe_std S__law_label hr rfl (pa_cons (pv 0) (pa_cons (pv 5) (pa_nil)))))
 (pss_cons (ps_parO (ps_par (i := 7) (j := 8) rfl nd rfl rfl (by decide) rfl rfl (pa_cons (pe_lst (pa_nil)) (pa_cons (pe_std S__law_ladle (hr.mono (by decide)) rfl (pa_cons (pv 0) (pa_cons (pe_int) (pa_nil)))) (pa_nil))) rfl))
 (pss_cons (ps_set (i := 3) nd rfl (Or.inr rfl) (pe_op (addK (K := K) rfl) (pe_int) (pe_std S__law_ladle (hr.mono (by decide)) rfl (pa_cons (pv 0) (pa_cons (pe_int) (pa_nil))))))
 (pss_cons (ps_if (pt_cmpR op_lt (pv 8) (pe_int) (nomark _)) (pss_one (ps_asO (ps_setLc (i := 7) (own := [("label", 9)]) rfl nd rfl rfl (sw_true rfl rfl rfl (by decide +kernel)) (ilistK (K := K) rfl (pv 2)) (blkOk_by (N := ["jar", "most", "pile_here", "often", "turn", "style", "many", "goal", "way", "label"]) (sc := (defScope (top 60))) (by decide +kernel)) (fun _ _ _ _ _ => pg_name (i := 9) nd rfl (Or.inl rfl) (.inr rfl)) (fun _ _ _ _ _ => pts_one (pt_cmpR (eqK (K := K) rfl (room64 hr)) (pe_std S__law_ladle (hr.mono (by decide)) rfl (pa_cons (pv 0) (pa_cons (pv 3) (pa_nil)))) (pe_int) (nomark _))) (fun _ _ _ _ _ => pv 9)))) (pss_nil))
 (pss_cons (ps_for PassesOwn.never rfl (pi_range1 rfl g_range (pa_cons (pe_ix (ixK (K := K) rfl) (pe_lst (pa_cons (pe_int) (pa_cons (pe_std S__law_ladle (hr.mono (by decide)) rfl (pa_cons (pv 0) (pa_cons (pe_int) (pa_nil)))) (pa_cons (pe_std S__law_ladle (hr.mono (by decide)) rfl (pa_cons (pv 0) (pa_cons (pe_op (addK (K := K) rfl) (pv 1) (pe_int)) (pa_nil)))) (pa_cons (pv 1) (pa_nil)))))) (pv 8) (fun _ _ => rfl)) (pa_nil))) (pg_name (i := 4) nd rfl (Or.inl rfl)) (pss_cons (ps_set (i := 9) nd rfl (Or.inl rfl) (pe_std S__law_label hr rfl (pa_cons (pv 0) (pa_cons (pv 5) (pa_nil)))))
 (pss_cons (ps_if (PW.pt (pw_and (pt_cmpR op_gt (pv 8) (pe_int) (nomark _)) (pw_and (pt_cmpR (neK (K := K) rfl (room64 hr)) (pv 2) (pe_lst (pa_nil)) (nomark _)) (pw_and1 (pt_cmpR op_gt (pe_std S__law_ladle (hr.mono (by decide)) rfl (pa_cons (pv 0) (pa_cons (pe_int) (pa_nil)))) (pe_int) (nomark _)))))) (pss_one (ps_set (i := 9) nd rfl (Or.inl rfl) (pe_ix (ixK (K := K) rfl) (pv 2) (pe_std S__law_ladle (hr.mono (by decide)) rfl (pa_cons (pv 0) (pa_cons (pe_callB (lenK (K := K) rfl) rfl g_len PySem.boot_len (pa_cons (pv 2) (pa_nil))) (pa_nil)))) (fun _ _ => rfl)))) (pss_nil))
 (pss_one (ps_expr (pe_bm PySem.F.plainAttrs_list PySem.F.slot_list_insert PySem.F.type_list_insert mt_insW (pv 7) (pa_cons (pe_std S__law_ladle (hr.mono (by decide)) rfl (pa_cons (pv 0) (pa_cons (pe_op (addK (K := K) rfl) (pe_callB (lenK (K := K) rfl) rfl g_len PySem.boot_len (pa_cons (pv 7) (pa_nil))) (pe_int)) (pa_nil)))) (pa_cons (pv 9) (pa_nil)))))))))
 (pss_one (ps_ret (pe_tup (pa_cons (pe_callTy (tupK (K := K) rfl) rfl g_tuple bt_tuple (pa_cons (pv 2) (pa_nil))) (pa_cons (pe_callTy (tupK (K := K) rfl) rfl g_tuple bt_tuple (pa_cons (pe_slice (slK (K := K) rfl) (pv 7) po_none (po_some (pv 1))) (pa_nil))) (pa_nil)))))))))))), ?_⟩
  refine body_x nm__law_piles ?_ vs H Q E h
  clear h hr
  intro c n x hK hp
  (subst hK)
  try clear S__law_ladle S__law_label g_range g_len g_tuple F
  obtain ⟨h0, h1, hn⟩ : 0 ≤ x ∧ x ≤ 60 ∧ n < 2 ^ 80 := hp
  walk_at "WK"
  refine ⟨_, rfl, by decide, by decide, by omega, fun style a0 b0 => ?_⟩
  walk_at "WK"
  refine ⟨_, rfl, by omega, by omega, by omega, fun r1 a1 b1 => ?_⟩
  walk_at "WK"
  refine ⟨_, rfl, by decide, by decide, by omega, fun r2 a2 b2 => ?_⟩
  walk_at "WK"
  obtain ⟨many, em, m0, m1⟩ := at2K (fun v => 0 ≤ v ∧ v ≤ 60) (i := r1) (j := x) ⟨by omega, by omega⟩ ⟨by omega, by omega⟩ a2 b2
  refine ⟨_, em, ?_⟩
  clear em
  walk_at "WK"
  refine wp_new (wn_lc (fun v hv => ?_) (wi_rng1 ?_))
  · have : v = 4 := by simpa using hv
    subst this
    exact Nat.le_of_ble_eq_true rfl
  walk_at "WK"
  refine ⟨by omega, by omega, fun i acc m => m ≤ n + 3 + 12 * i ∧ ∃ pl : List Key, pl.length = i ∧ acc = labs pl ∧ ∀ k ∈ pl, okLab k, ⟨by omega, [], rfl, rfl, fun _ z => nomatch z⟩, by rw [seqI_len]; omega, ?_, ?_⟩
  · rintro i acc m d hd ⟨hm, pl, hl, rfl, hc⟩
    obtain ⟨hi, rfl⟩ := seqI_of hd
    refine wg_name ⟨rfl, ?_⟩ (Nat.le_of_ble_eq_true rfl) (by decide)
    refine wt_yes ⟨fun _ => ?_, fun z => nomatch z⟩
    walk_at "WK"
    refine ⟨style, rfl, ⟨by omega, by omega, by (try dsimp only); omega⟩, ?_⟩
    rintro d m2 ⟨⟨k, rfl, hk⟩, hm2⟩
    refine ⟨rfl, ?_⟩
    refine ⟨by (try dsimp only at hm2); omega, pl ++ [k], by rw [List.length_append, hl]; rfl, labs_app _ [k], fun ch hh => ?_⟩
    rcases List.mem_append.mp hh with q | q
    · exact hc ch q
    · rw [List.mem_singleton.mp q]; exact hk
  rintro acc m ⟨hm, pl, hl, rfl, hc⟩
  rw [seqI_len] at hm hl
  have hpl : okPl pl := ⟨by omega, hc⟩
  walk_at "WK"
  refine ⟨_, rfl, by decide, by decide, by omega, fun way aw bw => ?_⟩
  walk_at "WK"
  refine ⟨_, rfl, by decide, by decide, by omega, fun ro ao bo => ?_⟩
  walk_at "WJ"
  show Ws c _ ⟨[.val .kln, .val (.py (.int x)), .val (.py (.list (labs pl))), .val (.py (.int (1 + ro))), .emp, .val (.py (.int style)), .val (.py (.int many)), .own (.lst (labs [])), .val (.py (.int way)), .emp], m + 1 + 1⟩ _
  refine ws_join (fun e1 => ∃ (goal : List Key) (m : Nat) (s9 : Slo), goal.length ≤ 60 ∧ (∀ k ∈ goal, okLab k) ∧ m ≤ n + 900 ∧ e1 = ⟨[.val .kln, .val (.py (.int x)), .val (.py (.list (labs pl))), .val (.py (.int (1 + ro))), .emp, .val (.py (.int style)), .val (.py (.int many)), .own (.lst (labs goal)), .val (.py (.int way)), s9], m⟩) ?_ ?_
  · walk_at "WK"
    refine ⟨fun q1 => ?_, fun q1 => ?_⟩
    · walk_at "WK"
      refine wn_lc (fun v hv => ?_) (wi_list rfl ?_)
      · have : v = 9 := by simpa using hv
        subst this
        exact Nat.le_of_ble_eq_true rfl
      walk_at "WK"
      refine ⟨fun i acc m' => m' = m + 2 + i ∧ ∃ goal : List Key, goal.length ≤ i ∧ acc = labs goal ∧ ∀ k ∈ goal, okLab k, ⟨rfl, [], Nat.le_refl _, rfl, fun _ z => nomatch z⟩, by rw [List.length_map, labs_len]; omega, ?_, ?_⟩
      · rintro i acc m' d hd ⟨rfl, goal, hgl, rfl, hgc⟩
        obtain ⟨k, hk, hkm, rfl⟩ := labs_item hd
        have hi : i < pl.length := (List.getElem?_eq_some_iff.mp hk).1
        refine wg_name ⟨rfl, ?_⟩ (Nat.le_of_ble_eq_true rfl) (by decide)
        walk_at "WK"
        refine ⟨_, rfl, by omega, by omega, by (try dsimp only); omega, fun r a b => ?_⟩
        walk_at "WK"
        refine ⟨fun q2 => ?_, fun q2 => ?_⟩
        · walk_at "WK"
          refine ⟨goal ++ [k], by rw [List.length_append]; show _ + 1 ≤ _; omega, labs_app _ [k], fun ch hh => ?_⟩
          rcases List.mem_append.mp hh with q | q
          · exact hgc ch q
          · rw [List.mem_singleton.mp q]; exact hc k hkm
        · exact ⟨by (try dsimp only); omega, goal, by omega, rfl, hgc⟩
      · rintro acc m' ⟨rfl, goal, hgl, rfl, hgc⟩
        rw [List.length_map, labs_len] at hgl ⊢
        exact ⟨goal, _, _, by omega, hgc, by omega, rfl⟩
    · walk_at "WK"
      exact ⟨[], _, _, by decide, fun _ z => (nomatch z), by omega, rfl⟩
  rintro e1 ⟨goal0, m0', s9, hg0, hgc0, hm0, rfl⟩
  refine ws_seq ?_
  refine ws_mid (fun e1 => ∃ (goal : List Key) (m : Nat) (s4 s9 : Slo), (∀ k ∈ goal, okLab k) ∧ m ≤ n + 4000 ∧ e1 = ⟨[.val .kln, .val (.py (.int x)), .val (.py (.list (labs pl))), .val (.py (.int (1 + ro))), s4, .val (.py (.int style)), .val (.py (.int many)), .own (.lst (labs goal)), .val (.py (.int way)), s9], m⟩) ?_ ?_
  · refine ws_for [4] (wi_rng1 ?_)
    walk_at "WK"
    refine ⟨_, rfl, by decide, by decide, by omega, fun r4 a4 b4 => ?_⟩
    walk_at "WK"
    refine ⟨_, rfl, by omega, by omega, by omega, fun r5 a5 b5 => ?_⟩
    walk_at "WK"
    obtain ⟨tn, et, t0, t1⟩ := at4K (fun v => 0 ≤ v ∧ v ≤ 60) (i := 0) (j := r4) (k := r5) (l := x) ⟨by omega, by omega⟩ ⟨by omega, by omega⟩ ⟨by omega, by omega⟩ ⟨by omega, by omega⟩ aw bw
    refine ⟨_, et, ?_⟩
    clear et
    walk_at "WK"
    refine ⟨by omega, by omega, fun i e1 => ∃ (goal : List Key) (m : Nat) (s4 s9 : Slo), goal.length ≤ 60 + i ∧ (∀ k ∈ goal, okLab k) ∧ m ≤ n + 902 + 20 * i ∧ e1 = ⟨[.val .kln, .val (.py (.int x)), .val (.py (.list (labs pl))), .val (.py (.int (1 + ro))), s4, .val (.py (.int style)), .val (.py (.int many)), .own (.lst (labs goal)), .val (.py (.int way)), s9], m⟩, ⟨goal0, _, _, _, by omega, hgc0, by omega, rfl⟩, ?_, ?_⟩
    · rintro i d e1 hd ⟨goal, mm, s4, s9', hgl, hgc, hmm, rfl⟩
      obtain ⟨hi, rfl⟩ := seqI_of hd
      refine wg_name ⟨rfl, ?_⟩ (Nat.le_of_ble_eq_true rfl) (by decide)
      walk_at "WJ"
      refine ws_seq ?_
      walk_at "WJ"
      refine ⟨style, rfl, ⟨by omega, by omega, by (try dsimp only); omega⟩, ?_⟩
      rintro d m2 ⟨⟨k0, rfl, hk0⟩, hm2⟩
      try dsimp only at hm2
      refine ⟨rfl, ?_⟩
      walk_at "WJ"
      show Ws c _ _ _
      refine ws_join (fun e1 => ∃ (k : Key) (m : Nat) (s4 : Slo), okLab k ∧ m ≤ mm + 14 ∧ e1 = ⟨[.val .kln, .val (.py (.int x)), .val (.py (.list (labs pl))), .val (.py (.int (1 + ro))), s4, .val (.py (.int style)), .val (.py (.int many)), .own (.lst (labs goal)), .val (.py (.int way)), .val (.py (lab k))], m⟩) ?_ ?_
      · walk_at "WK"
        refine ⟨fun q1 => ?_, fun q1 => ⟨fun z => (nomatch z), fun _ => ?_⟩⟩
        · walk_at "WK"
          refine ⟨shp_listK fun k hk => okLab_gd (hc k hk), ?_⟩
          rw [show PyData.list [] = PyData.list (labs []) from rfl, eqv_listK]
          walk_at "WK"
          refine ⟨fun q2 => ?_, fun q2 => ⟨fun z => (nomatch z), fun _ => ?_⟩⟩
          · have q2' : pl ≠ [] := by simpa using q2
            have hpos : 0 < pl.length := List.length_pos_iff.mpr q2'
            walk_at "WK"
            refine ⟨_, rfl, by decide, by decide, by (try dsimp only); omega, fun r6 a6 b6 => ?_⟩
            walk_at "WK"
            refine ⟨fun q3 => ?_, fun q3 => ?_⟩
            · walk_at "WK"
              rw [labs_len]
              refine ⟨_, rfl, by omega, by omega, by (try dsimp only); omega, fun r7 a7 b7 => ?_⟩
              obtain ⟨k, hk, e⟩ := lab_pick (l := pl) a7 b7
              walk_at "WK"
              refine ⟨_, e, ?_⟩
              walk_at "WK"
              exact ⟨k, _, _, hc k hk, by (try dsimp only); omega, rfl⟩
            · walk_at "WK"
              exact ⟨k0, _, _, hk0, by (try dsimp only); omega, rfl⟩
          · walk_at "WK"
            exact ⟨k0, _, _, hk0, by (try dsimp only); omega, rfl⟩
        · walk_at "WK"
          exact ⟨k0, _, _, hk0, by omega, rfl⟩
      · rintro e1 ⟨k, m3, s4', hk, hm3, rfl⟩
        walk_at "WK"
        rw [labs_len]
        refine ⟨_, rfl, by omega, by omega, by omega, fun r a b => ?_⟩
        obtain ⟨j, rfl⟩ := Int.eq_ofNat_of_zero_le a
        refine ⟨j, rfl, ?_⟩
        walk_at "WK"
        refine ⟨_, rfl, by (try rw [labs_len]); exact Nat.lt_of_le_of_lt (show _ ≤ 200 by omega) (by rw [sizeLine_eq]; decide), by omega, ?_⟩
        refine ⟨goal.take j ++ [k] ++ goal.drop j, m3 + 1, s4', .val (.py (lab k)), ?_, ?_, by omega, ?_⟩
        rotate_left 2
        · rw [labs_take, labs_drop, ← labs_app, ← labs_app]
          rfl
        · rw [List.length_append, List.length_append, List.length_take, List.length_drop]
          show _ + 1 + _ ≤ _
          omega
        · intro q hq
          rcases List.mem_append.mp hq with hq | hq
          · rcases List.mem_append.mp hq with hq | hq
            · exact hgc q (List.mem_of_mem_take hq)
            · rw [List.mem_singleton.mp hq]; exact hk
          · exact hgc q (List.mem_of_mem_drop hq)
    · rintro e1 ⟨goal, mm, s4, s9', hgl, hgc, hmm, rfl⟩
      rw [seqI_len] at hmm
      exact ⟨goal, mm, s4, s9', hgc, by omega, rfl⟩
  rintro e1 ⟨goal, mm, s4, s9', hgc, hmm, rfl⟩
  walk_at "WK"
  obtain ⟨j, rfl⟩ := Int.eq_ofNat_of_zero_le h0
  show (∃ pl' goal', frz (D.py (PyData.tuple [PyData.tuple (labs pl), PyData.tuple (cutD (labs goal) none (some (j : Int)))])) = D.py (.tuple [pile pl', pile goal']) ∧ okPl pl' ∧ okPl goal') ∧ mm ≤ n + 5000
  refine ⟨⟨pl, goal.take j, ?_, hpl, ?_, fun k hk => hgc k (List.mem_of_mem_take hk)⟩, by omega⟩
  · rw [cut_toA, labs_take]
    rfl
  · rw [List.length_take]
    omega
end
end Wx

/-! ### part X6 -/
set_option Elab.async false
set_option linter.all false
set_option maxRecDepth 100000
set_option maxHeartbeats 1000000
set_option autoImplicit false
namespace Wx
open PySem L2

theorem tal_dom (k : Key) (l : List Key) : (getI (tal l) k).isSome = decide (k ∈ l) := by
  refine snoc_ind (p := fun l => (getI (tal l) k).isSome = decide (k ∈ l)) rfl (fun l a ih => ?_) l
  rw [tal_snoc, getI_put]
  by_cases e : k = a
  · subst e
    rw [if_pos rfl]
    simp
  · rw [if_neg e, ih]
    simp [e]
theorem dom_dI (l : List Key) (k : Key) : (valP (dI (tal l)) k).isSome = decide (k ∈ l) := by
  rw [valP_dI, Option.isSome_map, tal_dom]
def badC (fs : List (Key × PyData)) (L : List Key) (p : Key × Int) : Bool := !(valP fs p.1).isSome && !(valP (dI (tal L)) p.1).isSome
theorem ok_keys {goal L : List Key} {fs : List (Key × PyData)} (hk : knownOk goal fs) : decide ((tal goal).filter (badC fs L) = []) = (goal.filter isStr).all fun x => decide (x ∈ L) := by
  rw [Bool.eq_iff_iff, decide_eq_true_iff, List.filter_eq_nil_iff, List.all_eq_true]
  constructor
  · intro h x hx
    obtain ⟨hg, hs⟩ := List.mem_filter.mp hx
    have hd := tal_dom x goal
    rw [decide_eq_true hg] at hd
    obtain ⟨n, hn⟩ := Option.isSome_iff_exists.mp hd
    have h1 := h (x, n) (getI_mem hn)
    unfold badC at h1
    rw [dom_dI, hk x hg, hs] at h1
    simpa using h1
  · intro h p hp
    have hn := mem_getI (tal_keys goal) (show (p.1, p.2) ∈ tal goal from hp)
    have hd := tal_dom p.1 goal
    rw [hn] at hd
    have hg : p.1 ∈ goal := of_decide_eq_true hd.symm
    unfold badC
    rw [dom_dI, hk p.1 hg]
    cases hs : isStr p.1 with
    | false => simp
    | true =>
      have := h p.1 (List.mem_filter.mpr ⟨hg, hs⟩)
      rw [this]
      simp
theorem keys_len (xs : List (Key × Int)) : (keysD (dI xs)).length = xs.length := by unfold keysD; rw [List.length_map, dI_len]
theorem keys_item {xs : List (Key × Int)} {i : Nat} {d : D} (hd : (keysD (dI xs))[i]? = some d) : ∃ p, xs[i]? = some p ∧ d = .py (lab p.1) := by
  unfold keysD dI at hd
  rw [List.getElem?_map, List.getElem?_map] at hd
  cases q : xs[i]? with
  | none => rw [q] at hd; cases hd
  | some p => rw [q] at hd; cases hd; exact ⟨p, rfl, rfl⟩
theorem eqv_numsNil (xs : List Int) : PyData.eqv (.list (nums xs)) (.list []) = decide (xs = []) := by
  cases xs with
  | nil => rfl
  | cons x xs => rfl
section
variable {P : Program} {w : World} {K : PySem.W.Frag} {mg : Str → Option Value} {base : Heap} {f C : Addr} {fd : FuncData}
abbrev sp__law_fewest (K : PySem.W.Frag) : Sp := SpX (ι := List Key × List Key × List (Key × PyData)) K (fun x => [.py (pile x.1), .py (pile x.2.1), .dct x.2.2]) (fun x _ => okPl x.1 ∧ okPl x.2.1 ∧ knownOk x.2.1 x.2.2) fun x n d m => d = .py (dueP x.1 x.2.1) ∧ m = n
theorem ln__law_fewest (x : List Key × List Key × List (Key × PyData)) : [D.py (pile x.1), .py (pile x.2.1), .dct x.2.2].length = 3 := rfl
theorem nm__law_fewest (x : List Key × List Key × List (Key × PyData)) : [D.py (pile x.1), .py (pile x.2.1), .dct x.2.2].all D.nm = true := rfl
theorem sc__law_fewest : FnScope ["pile_here", "goal", "free", "label", "dropped", "best", "wanted", "left", "copies", "stand", "spare", "number_here"] ["pile_here", "goal", "free"] (defScope (top 61)) := ⟨rfl, rfl, rfl, by decide +kernel, rfl, by decide +kernel, by decide +kernel⟩
theorem ok__law_fewest (F : FnP K "_law_fewest" "_law_fewest" (top 61) f fd) (g_range : mg "range" = none) (g_len : mg "len" = none) (g_sum : mg "sum" = none) (g_int : mg "int" = none) (g_min : mg "min" = none) (g_max : mg "max" = none) : FnOk P w K mg base CX0 1 f fd ["pile_here", "goal", "free"] (sp__law_fewest K) := by
  refine F.ok sc__law_fewest (sx_len ln__law_fewest) (fun cdv A outer s H vs Q E hr h => ?_)
  have nd := sc__law_fewest.nd
  refine ⟨_, PSs.nox (pss_cons (ps_tup2P (ps_asg (pe_tup (pa_cons (pe_non) (pa_cons (pe_dnewK) (pa_nil)))) (gtupK (K := K) (n := 2) rfl rfl (pgs_cons (pg_name (i := 5) nd rfl (Or.inl rfl)) (pgs_cons (pg_name (i := 6) nd rfl (Or.inr rfl)) (pgs_nil))))))
 (pss_cons (ps_for PassesOwn.never rfl (itupK (K := K) rfl (pv 1)) (pg_name (i := 3) nd rfl (Or.inl rfl)) (pss_one (ps_dput (hu_of hr) (pv 6) (pv 3) (pe_op (addK (K := K) rfl) (pe_dget2 (hu_of hr) (pv 6) (pv 3) (pe_int) ⟨rfl, rfl, rfl, rfl⟩) (pe_int)) rfl)))
 (pss_cons (ps_for PassesOwn.never rfl (pi_range1 rfl g_range (pa_cons (pe_op (addK (K := K) rfl) (pe_callB (lenK (K := K) rfl) rfl g_len PySem.boot_len (pa_cons (pv 0) (pa_nil))) (pe_int)) (pa_nil))) (pg_name (i := 4) nd rfl (Or.inl rfl)) (pss_cons (ps_tup3O (ps_asg (pe_tup (pa_cons (pe_slice (slK (K := K) rfl) (pv 0) po_none (po_some (pe_op op_sub (pe_callB (lenK (K := K) rfl) rfl g_len PySem.boot_len (pa_cons (pv 0) (pa_nil))) (pv 4)))) (pa_cons (pe_dnewK) (pa_cons (pe_int) (pa_nil))))) (gtupK (K := K) (n := 3) rfl rfl (pgs_cons (pg_name (i := 7) nd rfl (Or.inl rfl)) (pgs_cons (pg_name (i := 8) nd rfl (Or.inr rfl)) (pgs_cons (pg_name (i := 9) nd rfl (Or.inl rfl)) (pgs_nil)))))))
 (pss_cons (ps_for PassesOwn.never rfl (itupK (K := K) rfl (pv 7)) (pg_name (i := 3) nd rfl (Or.inl rfl)) (pss_cons (ps_dput (hu_of hr) (pv 8) (pv 3) (pe_op (addK (K := K) rfl) (pe_dget2 (hu_of hr) (pv 8) (pv 3) (pe_int) ⟨rfl, rfl, rfl, rfl⟩) (pe_int)) rfl)
 (pss_one (ps_set (i := 9) nd rfl (Or.inl rfl) (pe_op (addK (K := K) rfl) (pv 9) (pe_callTy callINT1 rfl g_int bt_int (pa_cons (pe_and (pe_cmpR op_lt (pv 9) (pe_callB (lenK (K := K) rfl) rfl g_len PySem.boot_len (pa_cons (pv 1) (pa_nil))) (nomark _)) (pe_one (pe_cmpR (eqK (K := K) rfl (room64 hr)) (pe_ix (ixK (K := K) rfl) (pv 1) (pe_callB (callMIN2 rfl) rfl g_min bt_min (pa_cons (pv 9) (pa_cons (pe_op op_sub (pe_callB (lenK (K := K) rfl) rfl g_len PySem.boot_len (pa_cons (pv 1) (pa_nil))) (pe_int)) (pa_nil)))) (fun _ _ => rfl)) (pv 3) (nomark _)))) (pa_nil))))))))
 (pss_one (ps_if (pt_cmpR (eqK (K := K) rfl (room64 hr)) (pe_lock (pe_lc (own := [("label", 3)]) rfl nd (pi_keys (pv 6)) (blkOk_by (N := ["pile_here", "goal", "free", "label", "dropped", "best", "wanted", "left", "copies", "stand", "spare", "number_here"]) (sc := (defScope (top 61))) (by decide +kernel)) (fun _ _ _ _ _ => pg_name (i := 3) nd rfl (Or.inl rfl) (.inr rfl)) (fun _ _ _ _ _ => pts_one (PW.pt (pw_and (pt_cmp (pc_dnotin (hu_of hr) (pv 3) (pv 2)) (by rfl)) (pw_and1 (pt_cmp (pc_dnotin (hu_of hr) (pv 3) (pv 8)) (by rfl)))))) (fun _ _ _ _ _ => pe_int))) (pe_lst (pa_nil)) (nomark _)) (pss_cons (ps_set (i := 10) nd rfl (Or.inl rfl) (pe_callB (sumK (K := K) rfl rfl) rfl g_sum bt_sum (pa_cons (pe_lock (pe_lc (own := [("label", 3)]) rfl nd (pi_keys (pv 8)) (blkOk_by (N := ["pile_here", "goal", "free", "label", "dropped", "best", "wanted", "left", "copies", "stand", "spare", "number_here"]) (sc := (defScope (top 61))) (by decide +kernel)) (fun _ _ _ _ _ => pg_name (i := 3) nd rfl (Or.inl rfl) (.inr rfl)) (fun _ _ _ _ _ => pts_nil) (fun _ _ _ _ _ => pe_callB (callMAX2 rfl) rfl g_max bt_max (pa_cons (pe_int) (pa_cons (pe_op op_sub (pe_dget (hu_of hr) (pv 8) (pv 3) (fun _ _ => rfl)) (pe_dget2 (hu_of hr) (pv 6) (pv 3) (pe_int) ⟨rfl, rfl, rfl, rfl⟩)) (pa_nil)))))) (pa_nil))))
 (pss_cons (ps_set (i := 11) nd rfl (Or.inl rfl) (pe_op op_sub (pe_op (addK (K := K) rfl) (pe_op (addK (K := K) rfl) (pv 4) (pe_op opMUL (pe_int) (pv 10))) (pe_callB (lenK (K := K) rfl) rfl g_len PySem.boot_len (pa_cons (pv 1) (pa_nil)))) (pv 9)))
 (pss_one (ps_set (i := 5) nd rfl (Or.inl rfl) (pe_ifExp (pt_cmpR opISN (pv 5) (pe_non) (nomark _)) (pv 11) (pe_callB (callMIN2 rfl) rfl g_min bt_min (pa_cons (pv 5) (pa_cons (pv 11) (pa_nil))))))))) (pss_nil))))))
 (pss_one (ps_ret (pv 5)))))), ?_⟩
  refine body_x nm__law_fewest ?_ vs H Q E h
  clear h hr
  intro c n x hK hp
  (subst hK)
  try clear g_range g_len g_sum g_int g_min g_max F
  obtain ⟨pl, goal, fs⟩ := x
  obtain ⟨hp1, hp2, hk⟩ : okPl pl ∧ okPl goal ∧ knownOk goal fs := hp
  dsimp only
  walk_at "WK"
  refine ws_tup2P (i := 5) (j := 6) rfl ?_ (Nat.le_of_ble_eq_true rfl) (Nat.le_of_ble_eq_true rfl) (by decide)
  walk_at "WJ"
  show Ws c _ _ _
  refine ws_join (fun e1 => ∃ s3, e1 = ⟨[.val (.py (pile pl)), .val (.py (pile goal)), .val (.dct fs), s3, .emp, .val (.py .none), .own (.dct (dI (tal goal))), .emp, .emp, .emp, .emp, .emp], n⟩) ?_ ?_
  · refine ws_for [3] (wi_tup rfl ?_)
    walk_at "WK"
    refine ⟨fun i e1 => ∃ s3, e1 = ⟨[.val (.py (pile pl)), .val (.py (pile goal)), .val (.dct fs), s3, .emp, .val (.py .none), .own (.dct (dI (tal (goal.take i)))), .emp, .emp, .emp, .emp, .emp], n⟩, ⟨.emp, rfl⟩, ?_, ?_⟩
    · rintro i d e1 hd ⟨s3, rfl⟩
      obtain ⟨k, hk, _, rfl⟩ := labs_item hd
      refine wg_name ⟨rfl, ?_⟩ (Nat.le_of_ble_eq_true rfl) (by decide)
      walk_at "WK"
      refine ⟨_, rfl, ?_⟩
      rw [getD_dI]
      walk_at "WK"
      refine ⟨_, rfl, ?_⟩
      walk_at "WK"
      have hl := tal_len (goal.take i)
      rw [List.length_take] at hl
      refine ⟨by rw [dI_len]; exact Nat.lt_of_le_of_lt (show _ ≤ 60 by have := hp2.1; omega) (by rw [sizeLine_eq]; decide), .val (.py (lab k)), ?_⟩
      rw [List.take_add_one, hk, show (goal.take i ++ (some k).toList) = goal.take i ++ [k] from rfl, tal_snoc, putP_dI]
      rfl
    · rintro e1 ⟨s3, rfl⟩
      rw [List.length_map, labs_len, List.take_length]
      exact ⟨s3, rfl⟩
  rintro e1 ⟨s3, rfl⟩
  refine ws_seq ?_
  refine ws_mid (fun e1 => ∃ (s3 s4 s8 s9 s10 s11 s7 : Slo), e1 = ⟨[.val (.py (pile pl)), .val (.py (pile goal)), .val (.dct fs), s3, s4, .val (.py (dueP pl goal)), .own (.dct (dI (tal goal))), s7, s8, s9, s10, s11], n⟩) ?_ ?_
  · refine ws_for [4] (wi_rng1 ?_)
    walk_at "WK"
    rw [labs_len]
    refine ⟨by have := hp1.1; omega, by have := hp1.1; omega, fun i e1 => ∃ (p5 : PyData) (s3 s4 s8 s9 s10 s11 s7 : Slo), p5 = (match bestF pl goal i with | none => PyData.none | some b => .int b) ∧ e1 = ⟨[.val (.py (pile pl)), .val (.py (pile goal)), .val (.dct fs), s3, s4, .val (.py p5), .own (.dct (dI (tal goal))), s7, s8, s9, s10, s11], n⟩, ⟨.none, s3, .emp, .emp, .emp, .emp, .emp, .emp, rfl, rfl⟩, ?_, ?_⟩
    · rintro i d e1 hd ⟨p5, s3, s4, s8, s9, s10, s11, s7, hp5, rfl⟩
      obtain ⟨hi, rfl⟩ := seqI_of hd
      refine wg_name ⟨rfl, ?_⟩ (Nat.le_of_ble_eq_true rfl) (by decide)
      refine ws_seq ?_
      refine ws_tup3O (i := 7) (j := 8) (l := 9) rfl ?_ (Nat.le_of_ble_eq_true rfl) (Nat.le_of_ble_eq_true rfl) (Nat.le_of_ble_eq_true rfl)
      walk_at "WK"
      rw [labs_len, show (0 + (i : Int) * 1) = (i : Int) by omega, ← Int.ofNat_sub (by omega : i ≤ pl.length), cut_toA, labs_take]
      have hpL := hp1.take (pl.length - i)
      have hon : okF pl goal i = (goal.filter isStr).all fun k => decide (k ∈ pl.take (pl.length - i)) := rfl
      have hnum : numF pl goal i = (i : Int) + (2 * spareF (pl.take (pl.length - i)) goal + goal.length - standF goal (pl.take (pl.length - i))) := rfl
      have hb1 : bestF pl goal (i + 1) = if okF pl goal i = true then some (match bestF pl goal i with | none => numF pl goal i | some b => if numF pl goal i < b then numF pl goal i else b) else bestF pl goal i := rfl
      generalize pl.take (pl.length - i) = L at *
      refine ws_mid (fun e1 => ∃ s3, e1 = ⟨[.val (.py (pile pl)), .val (.py (pile goal)), .val (.dct fs), s3, .val (.py (.int (i : Int))), .val (.py p5), .own (.dct (dI (tal goal))), .val (.py (pile L)), .own (.dct (dI (tal L))), .val (.py (.int (standF goal L : Int))), s10, s11], n⟩) ?_ ?_
      · refine ws_for [3] (wi_tup rfl ?_)
        walk_at "WK"
        refine ⟨fun j e1 => ∃ s3, e1 = ⟨[.val (.py (pile pl)), .val (.py (pile goal)), .val (.dct fs), s3, .val (.py (.int (i : Int))), .val (.py p5), .own (.dct (dI (tal goal))), .val (.py (pile L)), .own (.dct (dI (tal (L.take j)))), .val (.py (.int (standF goal (L.take j) : Int))), s10, s11], n⟩, ⟨s3, rfl⟩, ?_, ?_⟩
        · rintro j d e1 hd ⟨s3, rfl⟩
          obtain ⟨k, hk, hkm, rfl⟩ := labs_item hd
          refine wg_name ⟨rfl, ?_⟩ (Nat.le_of_ble_eq_true rfl) (by decide)
          have hsub := (stand_sub goal (L.take j)).1
          have ts : L.take (j + 1) = L.take j ++ [k] := by rw [List.take_add_one, hk]; rfl
          have hl := tal_len (L.take j)
          rw [List.length_take] at hl
          have sn := stand_snoc goal (L.take j) k
          walk_at "WK"
          refine ⟨_, rfl, ?_⟩
          rw [getD_dI]
          walk_at "WK"
          refine ⟨_, rfl, ?_⟩
          walk_at "WK"
          refine ⟨by rw [dI_len]; exact Nat.lt_of_le_of_lt (show _ ≤ 60 by have := hpL.1; omega) (by rw [sizeLine_eq]; decide), ?_⟩
          rw [putP_dI]
          show Ws c _ _ _
          have fin : ∀ {X : List (Key × Int)} {b : Bool} {nn : Nat}, X = tal (L.take (j + 1)) → (standF goal (L.take j) : Int) + (if b = true then 1 else 0) = standF goal (L.take (j + 1)) → nn = n → ∃ s3, (⟨[.val (.py (pile pl)), .val (.py (pile goal)), .val (.dct fs), .val (.py (lab k)), .val (.py (.int (i : Int))), .val (.py p5), .own (.dct (dI (tal goal))), .val (.py (pile L)), .own (.dct (dI X)), .val (.py (.int ((standF goal (L.take j) : Int) + if b = true then 1 else 0))), s10, s11], nn⟩ : En) = ⟨[.val (.py (pile pl)), .val (.py (pile goal)), .val (.dct fs), s3, .val (.py (.int (i : Int))), .val (.py p5), .own (.dct (dI (tal goal))), .val (.py (pile L)), .own (.dct (dI (tal (L.take (j + 1))))), .val (.py (.int (standF goal (L.take (j + 1)) : Int))), s10, s11], n⟩ := by
            rintro X b nn rfl e rfl
            rw [e]
            exact ⟨_, rfl⟩
          have hX : putI (tal (L.take j)) k (cnt (tal (L.take j)) k + 1) = tal (L.take (j + 1)) := by rw [ts, tal_snoc]
          have hS : (standF goal (L.take (j + 1)) : Int) = ((if goal[standF goal (L.take j)]? = some k then standF goal (L.take j) + 1 else standF goal (L.take j) : Nat) : Int) := by rw [ts, sn]
          clear sn
          generalize standF goal (L.take j) = S at *
          walk_at "WK"
          rw [labs_len]
          refine ⟨fun q1 => ?_, fun q1 => ?_⟩
          · have q1' := of_decide_eq_true q1
            have hlt : S < goal.length := by omega
            have hg : goal[S]? = some goal[S] := List.getElem?_eq_getElem hlt
            walk_at "WK"
            rw [labs_len, if_neg (by omega)]
            refine ⟨_, labs_at hg, ?_⟩
            walk_at "WK"
            refine ⟨hp2.shp (List.getElem_mem _), hpL.shp hkm, ?_⟩
            rw [eqv_lab]
            walk_at "WK"
            refine fin (b := decide (goal[S] = k)) hX ?_ rfl
            rw [hS, hg]
            by_cases e : goal[S] = k
            · rw [decide_eq_true e, if_pos rfl, if_pos (by rw [e])]; rfl
            · rw [decide_eq_false e, if_neg (fun z => nomatch z), if_neg (fun z => e (Option.some.inj z))]; omega
          · have q1' := of_decide_eq_false q1
            walk_at "WK"
            refine fin (b := false) hX ?_ rfl
            rw [hS, List.getElem?_eq_none (by omega), if_neg (fun z => nomatch z), if_neg (fun z => nomatch z)]
            omega
        · rintro e1 ⟨s3, rfl⟩
          rw [List.length_map, labs_len, List.take_length]
          exact ⟨s3, rfl⟩
      rintro e1 ⟨s3, rfl⟩
      walk_at "WK"
      refine wp_lock (i := 6) (ds := dI (tal goal)) rfl ?_
      refine wp_new (wn_lc (fun v hv => ?_) (wi_keys ?_))
      · have : v = 3 := by simpa using hv
        subst this
        exact Nat.le_of_ble_eq_true rfl
      walk_at "WK"
      refine ⟨_, rfl, ?_⟩
      refine ⟨fun j acc m2 => m2 = n ∧ acc = nums ((((tal goal).take j).filter (badC fs L)).map fun _ => 1), ⟨rfl, rfl⟩, ?_, ?_, ?_⟩
      · unfold keysD
        rw [List.length_map, dI_len]
        exact Nat.lt_of_le_of_lt (Nat.le_trans (tal_len goal) hp2.1) (by decide)
      · rintro j acc m2 d hd ⟨rfl, rfl⟩
        obtain ⟨p, hq, rfl⟩ := keys_item hd
        refine wg_name ⟨rfl, ?_⟩ (Nat.le_of_ble_eq_true rfl) (by decide)
        have ts : (tal goal).take (j + 1) = (tal goal).take j ++ [p] := by rw [List.take_add_one, hq]; rfl
        walk_at "WK"
        refine ⟨fun q1 => ?_, fun q1 => ⟨fun z => (nomatch z), fun _ => ?_⟩⟩
        · walk_at "WK"
          refine ⟨fun q2 => ?_, fun q2 => ?_⟩
          · have hb : badC fs L p = true := by unfold badC; rw [q1, q2]; rfl
            walk_at "WK"
            rw [ts, List.filter_append, List.filter_cons_of_pos hb, List.map_append, ← nums_app]
            rfl
          · have hb : ¬ badC fs L p = true := by unfold badC; rw [q1, q2]; exact fun z => nomatch z
            refine ⟨rfl, ?_⟩
            rw [ts, List.filter_append, List.filter_cons_of_neg hb]
            simp
        · have hb : ¬ badC fs L p = true := by unfold badC; rw [q1]; exact fun z => nomatch z
          refine ⟨rfl, ?_⟩
          rw [ts, List.filter_append, List.filter_cons_of_neg hb]
          simp
      · rintro acc m2 ⟨rfl, rfl⟩
        rw [keys_len, List.take_length]
        refine ⟨_, rfl, ?_⟩
        walk_at "WK"
        have hz : decide ((((tal goal).filter (badC fs L)).map fun _ => (1 : Int)) = []) = okF pl goal i := by
          rw [hon, ← ok_keys hk]
          congr 1
          simp
        refine ⟨shp_numsL _, shp_nilL, ?_⟩
        rw [eqv_numsNil, hz]
        walk_at "WK"
        refine ⟨fun q1 => ?_, fun q1 => ?_⟩
        · rw [if_pos q1] at hb1
          walk_at "WK"
          refine wp_lock (i := 8) (ds := dI (tal L)) rfl ?_
          refine wp_new (wn_lc (fun v hv => ?_) (wi_keys ?_))
          · have : v = 3 := by simpa using hv
            subst this
            exact Nat.le_of_ble_eq_true rfl
          walk_at "WK"
          refine ⟨_, rfl, ?_⟩
          refine ⟨fun j acc m3 => m3 = m2 ∧ acc = nums (((tal L).take j).map fun p => mx0 (p.2 - cnt (tal goal) p.1)), ⟨rfl, rfl⟩, ?_, ?_, ?_⟩
          · rw [keys_len]
            exact Nat.lt_of_le_of_lt (Nat.le_trans (tal_len L) hpL.1) (by decide)
          · rintro j acc m3 d hd ⟨rfl, rfl⟩
            obtain ⟨p, hq, rfl⟩ := keys_item hd
            have ts : (tal L).take (j + 1) = (tal L).take j ++ [p] := by rw [List.take_add_one, hq]; rfl
            have hv : valP (dI (tal L)) p.1 = some (.int p.2) := by
              rw [valP_dI, mem_getI (tal_keys L) (List.mem_of_getElem? hq)]
              rfl
            refine wg_name ⟨rfl, ?_⟩ (Nat.le_of_ble_eq_true rfl) (by decide)
            refine wt_yes ⟨fun _ => ?_, fun z => nomatch z⟩
            walk_at "WK"
            refine ⟨_, hv, ?_⟩
            walk_at "WK"
            refine ⟨_, rfl, ?_⟩
            rw [getD_dI]
            walk_at "WK"
            rw [ts, List.map_append, ← nums_app]
            rfl
          · rintro acc m3 ⟨rfl, rfl⟩
            rw [keys_len, List.take_length]
            refine ⟨_, rfl, ?_⟩
            walk_at "WK"
            refine cw_sum rfl (one_mk ⟨_, rfl, ?_⟩)
            walk_at "WK"
            refine rw_mI (wide2 (spare_nn L goal) (spare_le hpL.1)) ?_
            walk_at "WK"
            rw [labs_len, show (i : Int) + 2 * ((tal L).map fun p => mx0 (p.2 - cnt (tal goal) p.1)).sum + goal.length - standF goal L = numF pl goal i from by rw [hnum]; unfold spareF; omega]
            cases q : bestF pl goal i with
            | none =>
              rw [q] at hp5 hb1
              subst hp5
              refine rw_isNN ?_
              walk_at "WK"
              refine ⟨fun _ => ?_, fun z => (nomatch z)⟩
              walk_at "WK"
              refine ⟨_, _, _, _, _, _, _, _, ?_, rfl⟩
              rw [hb1]
            | some b =>
              rw [q] at hp5 hb1
              subst hp5
              refine rw_isN rfl ?_
              walk_at "WK"
              refine ⟨fun z => (nomatch z), fun _ => ?_⟩
              walk_at "WK"
              refine ⟨_, _, _, _, _, _, _, _, ?_, rfl⟩
              rw [hb1]
        · rw [if_neg (by rw [q1]; exact fun z => nomatch z)] at hb1
          walk_at "WK"
          refine ⟨p5, _, _, _, _, _, _, _, ?_, rfl⟩
          rw [hb1]
          exact hp5
    · rintro e1 ⟨p5, s3, s4, s8, s9, s10, s11, s7, hp5, rfl⟩
      rw [seqI_len] at hp5
      subst hp5
      exact ⟨_, _, _, _, _, _, _, rfl⟩
  rintro e1 ⟨s3, s4, s8, s9, s10, s11, s7, rfl⟩
  walk_at "WK"
  first | exact ⟨rfl, rfl⟩ | exact rfl
end
end Wx

/-! ### part T20 -/
set_option Elab.async false
set_option linter.all false
set_option maxRecDepth 100000
set_option maxHeartbeats 1000000
set_option autoImplicit false
namespace Wx
open PySem L2

theorem abc_lt8 : ∀ ch ∈ abc.cps.toList, ch < 16 ^ 8 := by decide +kernel
theorem sh_lab {k : Key} (h : okLab k) : Sh 0 240 (lab k) := by
  cases k with
  | inl i =>
    have h' : -(10 ^ 30) ≤ i ∧ i ≤ 10 ^ 30 := h
    exact sh_int (by omega)
  | inr s =>
    obtain ⟨_, h2, h3⟩ : symOk s := h
    refine ⟨rfl, rfl, ?_, Nat.le_refl _, ?_⟩
    · show PyData.leavesShort 80 (.str s) = true
      rw [PyData.leavesShort]
      exact List.all_eq_true.mpr fun c hc => decide_eq_true (abc_lt8 c (h3 c hc))
    · show PyData.weight (.str s) ≤ 240
      rw [PyData.weight]
      exact Nat.le_trans h2 (by decide)
theorem shl_labs : ∀ {l : List Key}, (∀ k ∈ l, okLab k) → ShL 0 (250 * l.length) (labs l)
  | [], _ => shl_nil
  | s :: l, h => by
    have t := shl_labs (l := l) fun x hx => h x (List.mem_cons_of_mem _ hx)
    have z := shl_cons (sh_lab (h s List.mem_cons_self)) t
    exact ⟨z.sh, z.nd, z.lv, z.dp, Nat.le_trans z.wt (by rw [List.length_cons]; omega)⟩
theorem sh_pile {l : List Key} (h : okPl l) : Sh 1 20000 (pile l) := sh_mono (sh_tup (shl_labs h.2)) (by decide) (by have := h.1; omega)
theorem sh_piles {l m : List Key} (h : okPl l) (h2 : okPl m) : Sh 2 60000 (.list [pile l, pile m]) := sh_mono (sh_list (shl_cons (sh_pile h) (shl_cons (sh_pile h2) shl_nil))) (by decide) (by decide)
theorem best_bd {pl goal : List Key} (h : okPl pl) (h2 : okPl goal) : ∀ (n : Nat), n ≤ 61 → ∀ b, bestF pl goal n = some b → b ≤ 8000
  | 0, _, b, z => nomatch z
  | n + 1, hn, b, z => by
    have ih := best_bd h h2 n (by omega)
    have sp := spare_le (left := pl.take (pl.length - n)) (goal := goal) (h.take _).1
    have hnum : numF pl goal n ≤ 8000 := by
      unfold numF
      have := h2.1
      omega
    have e : bestF pl goal (n + 1) = if okF pl goal n = true then some (match bestF pl goal n with | none => numF pl goal n | some b => if numF pl goal n < b then numF pl goal n else b) else bestF pl goal n := rfl
    rw [e] at z
    by_cases o : okF pl goal n = true
    · rw [if_pos o] at z
      cases q : bestF pl goal n with
      | none => rw [q] at z; cases z; exact hnum
      | some c =>
        rw [q] at z
        have hc := ih c q
        have z' := Option.some.inj z
        dsimp only at z'
        rw [← z']
        split <;> omega
    · rw [if_neg o] at z
      exact ih b z
theorem sh_due {pl goal : List Key} (h : okPl pl) (h2 : okPl goal) : Sh 0 240 (dueP pl goal) := by
  unfold dueP
  cases q : dueF pl goal with
  | none => exact ⟨rfl, rfl, rfl, Nat.le_refl _, by decide⟩
  | some b =>
    have h3 := best_bd h h2 (pl.length + 1) (by have := h.1; omega) b q
    have h4 := (best_zero pl goal (pl.length + 1)).1 b q
    exact sh_int (by omega)
theorem sh_dues {pl goal : List Key} (h : okPl pl) (h2 : okPl goal) : Sh 1 1000 (.list [dueP pl goal, dueP pl goal]) := sh_mono (sh_list (shl_cons (sh_due h h2) (shl_cons (sh_due h h2) shl_nil))) (by decide) (by decide)
theorem shp_due (pl goal : List Key) : SeqAt.shaped (dueP pl goal) = true := by
  unfold dueP
  cases dueF pl goal with
  | none => rfl
  | some b => exact shp_int b
theorem eqv_due (pl goal : List Key) : PyData.eqv (dueP pl goal) (.int 0) = decide (pl = goal) := by
  have h := due_zero pl goal
  unfold dueP
  cases q : dueF pl goal with
  | none =>
    rw [q] at h
    rw [decide_eq_false (fun z => nomatch h.mpr z)]
    rfl
  | some b =>
    rw [q] at h
    show PyData.eqv (.int b) (.int 0) = _
    rw [eqv_int, decide_eq_decide]
    exact ⟨fun z => h.mp (by rw [z]), fun z => Option.some.inj (h.mpr z)⟩
theorem merge_dom (k : Key) : ∀ (kp acc : List (Key × PyData)), (valP (mergeP acc kp) k).isSome = ((valP acc k).isSome || decide (k ∈ kp.map Prod.fst))
  | [], acc => by unfold mergeP; simp
  | p :: r, acc => by
    have ih := merge_dom k r (putP acc p.1 p.2)
    show (valP (mergeP (putP acc p.1 p.2) r) k).isSome = _
    rw [ih, valP_put]
    by_cases e : k = p.1
    · subst e
      rw [if_pos rfl]
      simp
    · rw [if_neg e]
      congr 1
      rw [decide_eq_decide, List.map_cons, List.mem_cons]
      exact ⟨.inr, fun z => z.resolve_left e⟩
def freeP (l : List Key) : List (Key × PyData) := (l.filter fun k => !isStr k).map fun k => (k, .bool true)
theorem free_known (goal : List Key) : knownOk goal (mergeP [] (freeP goal)) := fun k hk => by
  rw [merge_dom]
  unfold freeP
  rw [List.map_map]
  cases hs : isStr k <;> simp [hk, hs, valP]
theorem rw_eqSS2 {c : Cy} {Φ : D → Nat → Prop} {n : Nat} {x : Str} (h : Φ (.py (.bool true)) n) : Rw c rEq (.py (.str x)) (.py (.str x)) n Φ := ⟨fun A H v1 v2 a x1 x2 Q k => by
  cases Da.str_eq x1
  cases Da.str_eq x2
  refine ⟨rfl, ?_⟩
  rw [decide_eq_true rfl]
  exact k _ H _ n h Ek.refl a.good (.bl _)⟩
theorem due_planWs {pl goal : List Key} : dueF pl goal = none ↔ bestK pl goal (pl.length + 1) = none := by
  unfold dueF
  rw [bestK_F]
  cases bestK pl goal (pl.length + 1) <;> simp
section
variable {P : Program} {w : World} {K : PySem.W.Frag} {mg : Str → Option Value} {base : Heap} {f C CT : Addr} {fd : FuncData}
abbrev sp__law_right (K : PySem.W.Frag) : Sp := SpX (ι := List Key × List Key) K (fun x => [.py (pile x.1), .py (pile x.2)]) (fun x _ => okPl x.1 ∧ okPl x.2) fun x n d m => d = .py (.bool true) ∧ m = n
theorem ln__law_right (x : List Key × List Key) : [D.py (pile x.1), .py (pile x.2)].length = 2 := rfl
theorem nm__law_right (x : List Key × List Key) : [D.py (pile x.1), .py (pile x.2)].all D.nm = true := rfl
theorem sc__law_right : FnScope ["pile_here", "goal", "free", "kept", "words", "cells", "due", "found", "label"] ["pile_here", "goal"] (defScope (top 65)) := ⟨rfl, rfl, rfl, by decide +kernel, rfl, by decide +kernel, by decide +kernel⟩
theorem ok__law_right (F : FnP K "_law_right" "_law_right" (top 65) f fd) (g_dict : mg "dict" = none) (g_isinstance : mg "isinstance" = none) (g_str : mg "str" = none) (g_repr : mg "repr" = none) (S__law_fewest : Std P w K mg base 1 "_law_fewest" ["pile_here", "goal", "free"] (sp__law_fewest K)) (S__law_found : Std P w K mg base 8 "_law_found" ["pile_here", "goal"] (sp__law_found K C)) (S_fewest : Std P w K mg base 6 "fewest" ["pile", "goal"] (sp_fewest K)) (g_len : mg "len" = none) (S__law_done : Std P w K mg base 2 "_law_done" ["words", "cells"] (sp__law_done K)) (g_list : mg "list" = none) (g_tuple : mg "tuple" = none) (S_plan : Std P w K mg base 7 "plan" ["pile", "goal"] (sp_plan K C)) (kc : KitC K C) (pa : PrA K C) (gP : mg "Program" = some (.ref C)) (P_text : StdP P w K mg base 1 C "text" (sp_Program_text K C)) (P_is_plain : StdP P w K mg base 1 C "is_plain" (sp_Program_is_plain K C)) (P_steps : StdP P w K mg base 1 C "steps" (sp_Program_steps K C)) (M_len : StdM P w K mg base 1 C "__len__" (sp_Program___len__ K C)) (M_eq : StdM P w K mg base 1 C "__eq__" (sp_Program___eq__ K C)) : FnG P w K mg base 9 f fd ["pile_here", "goal"] (sp__law_right K) := by
  refine fng_of F sc__law_right (sx_len ln__law_right) (fun cdv A outer s H vs Q E hr gd h => ?_)
  have nd := sc__law_right.nd
  refine ⟨_, PSs.nox (pss_cons (ps_set (i := 2) nd rfl (Or.inl rfl) (pe_callTy (dictK (K := K) rfl rfl) rfl g_dict bt_dict (pa_cons (pe_lc (own := [("label", 8)]) rfl nd (itupK (K := K) rfl (pv 1)) (blkOk_by (N := ["pile_here", "goal", "free", "kept", "words", "cells", "due", "found", "label"]) (sc := (defScope (top 65))) (by decide +kernel)) (fun _ _ _ _ _ => pg_name (i := 8) nd rfl (Or.inl rfl) (.inr rfl)) (fun _ _ _ _ _ => pts_one (pt_not (truK (K := K) rfl (pe_callB (isiK (K := K) rfl) rfl g_isinstance bt_isinstance (pa_cons (pv 8) (pa_cons (pe_bltn (v := .ty "str") rfl g_str bt_str rfl) pa_nil))) (by intro _; rfl)))) (fun _ _ _ _ _ => pe_tup (pa_cons (pv 8) (pa_cons (pe_bl) (pa_nil))))) (pa_nil))))
 (pss_cons (ps_set (i := 3) nd rfl (Or.inl rfl) (pe_callB (reprK (K := K) rfl gd hr) rfl g_repr bt_repr (pa_cons (pe_lst (pa_cons (pv 0) (pa_cons (pv 1) (pa_nil)))) (pa_nil))))
 (pss_cons (ps_par (i := 6) (j := 7) rfl nd rfl rfl (by decide) rfl rfl (pa_cons (pe_std S__law_fewest (hr.mono (by decide)) rfl (pa_cons (pv 0) (pa_cons (pv 1) (pa_cons (pv 2) (pa_nil))))) (pa_cons (pe_std S__law_found hr rfl (pa_cons (pv 0) (pa_cons (pv 1) (pa_nil)))) (pa_nil))) rfl)
 (pss_cons (ps_if (pt_cmpR opISN (pv 6) (pe_non) (nomark _)) (pss_one (ps_ret (pe_and (pe_cmpR opISN (pv 7) (pe_non) (nomark _)) (pe_one (pe_cmpR opISN (pe_std S_fewest (hr.mono (by decide)) rfl (pa_cons (pv 0) (pa_cons (pv 1) (pa_nil)))) (pe_non) (nomark _)))))) (pss_nil))
 (pss_cons (ps_if (PW.pt (pw_or (pt_not (truK (K := K) rfl (pe_callB (isiK (K := K) rfl) rfl g_isinstance bt_isinstance (pa_cons (pv 7) (pa_cons (pe_glob (v := .ref C) rfl gP rfl) pa_nil))) (by intro _; rfl))) (pw_or (pt_not (truK (K := K) rfl (pe_propS P_is_plain kc.cl (hr.mono (by decide)) (pv 7) rfl) (by intro _; rfl))) (pw_or (pt_cmpR (neK (K := K) rfl (room64 hr)) (pe_propS P_steps kc.cl (hr.mono (by decide)) (pv 7) rfl) (pv 6) (nomark _)) (pw_or1 (pt_cmpR (neK (K := K) rfl (room64 hr)) (pe_callB (lenS M_len (hr.mono (by decide))) rfl g_len PySem.boot_len (pa_cons (pv 7) (pa_nil))) (pv 6) (nomark _))))))) (pss_one (ps_ret (pe_bl))) (pss_nil))
 (pss_cons (ps_set (i := 4) nd rfl (Or.inl rfl) (pe_ifExp (pt_cmpR (neK (K := K) rfl (room64 hr)) (pe_propS P_text kc.cl (hr.mono (by decide)) (pv 7) rfl) (pe_str) (nomark _)) (pe_splitS (pe_propS P_text kc.cl (hr.mono (by decide)) (pv 7) rfl) (pe_str)) (pe_lst (pa_nil))))
 (pss_cons (ps_set (i := 5) nd rfl (Or.inl rfl) (pe_std S__law_done (hr.mono (by decide)) rfl (pa_cons (pv 4) (pa_cons (pe_callTy (listK (K := K) rfl) rfl g_list bt_list (pa_cons (pv 0) (pa_nil))) (pa_nil)))))
 (pss_cons (ps_if (PW.pt (pw_or (pt_cmpR opISN (pv 5) (pe_non) (nomark _)) (pw_or (pt_cmpR op_ne (pe_callB (reprK (K := K) rfl gd hr) rfl g_repr bt_repr (pa_cons (pe_callTy (tupK (K := K) rfl) rfl g_tuple bt_tuple (pa_cons (pv 5) (pa_nil))) (pa_nil))) (pe_callB (reprK (K := K) rfl gd hr) rfl g_repr bt_repr (pa_cons (pv 1) (pa_nil))) (nomark _)) (pw_or1 (pt_cmpR (neK (K := K) rfl (room64 hr)) (pe_std S_fewest (hr.mono (by decide)) rfl (pa_cons (pv 0) (pa_cons (pv 1) (pa_nil)))) (pv 6) (nomark _)))))) (pss_one (ps_ret (pe_bl))) (pss_nil))
 (pss_one (ps_ret (pe_and (pe_cmpR (eqS (K := K) rfl M_eq (hr.mono (by decide))) (pe_std S_plan (hr.mono (by decide)) rfl (pa_cons (pv 0) (pa_cons (pv 1) (pa_nil)))) (pv 7) (nomark _)) (pe_one (pe_cmpR op_eq (pe_callB (reprK (K := K) rfl gd hr) rfl g_repr bt_repr (pa_cons (pe_lst (pa_cons (pv 0) (pa_cons (pv 1) (pa_nil)))) (pa_nil))) (pv 3) (nomark _)))))))))))))), ?_⟩
  refine body_x nm__law_right ?_ vs H Q E h
  clear h hr gd
  intro c n x hK hp
  (subst hK)
  try clear g_dict g_isinstance g_str g_repr S__law_fewest S__law_found S_fewest g_len S__law_done g_list g_tuple S_plan P_text P_is_plain P_steps M_len M_eq F
  obtain ⟨pl, goal⟩ := x
  obtain ⟨hp1, hp2⟩ : okPl pl ∧ okPl goal := hp
  dsimp only
  walk_at "WK"
  refine wp_new (wn_lc (fun v hv => ?_) (wi_tup rfl ?_))
  · have : v = 8 := by simpa using hv
    subst this
    exact Nat.le_of_ble_eq_true rfl
  walk_at "WK"
  refine ⟨fun i acc m => m = n ∧ acc = pairsP (freeP (goal.take i)), ⟨rfl, rfl⟩, by rw [List.length_map, labs_len]; have := hp2.1; omega, ?_, ?_⟩
  · rintro i acc m d hd ⟨rfl, rfl⟩
    obtain ⟨k, hk, hkm, rfl⟩ := labs_item hd
    have ts : goal.take (i + 1) = goal.take i ++ [k] := by rw [List.take_add_one, hk]; rfl
    refine wg_name ⟨rfl, ?_⟩ (Nat.le_of_ble_eq_true rfl) (by decide)
    cases k with
    | inl v =>
      dsimp only [lab]
      walk_at "WK"
      refine ⟨fun _ => ?_, fun z => absurd z (by decide +kernel)⟩
      walk_at "WK"
      rw [ts]
      unfold freeP pairsP
      rw [List.filter_append, List.filter_cons_of_pos rfl, List.map_append, List.map_append]
      rfl
    | inr v =>
      dsimp only [lab]
      walk_at "WK"
      refine ⟨fun z => (nomatch z), fun _ => ⟨rfl, ?_⟩⟩
      rw [ts]
      unfold freeP
      rw [List.filter_append, List.filter_cons_of_neg (by exact fun z => nomatch z)]
      simp
  rintro acc m ⟨rfl, rfl⟩
  rw [List.length_map, labs_len, List.take_length]
  walk_at "WK"
  refine cw_dictP rfl (one_mk ⟨_, rfl, ?_⟩)
  have hk := free_known goal
  generalize mergeP [] (freeP goal) = fs at *
  walk_at "WK"
  refine cw_repr rfl rfl (sh_piles hp1 hp2) (by decide) (by decide) ?_
  walk_at "WK"
  refine ⟨(pl, goal, fs), rfl, ⟨hp1, hp2, hk⟩, ?_⟩
  rintro d m ⟨rfl, rfl⟩
  refine ⟨rfl, ?_⟩
  dsimp only
  walk_at "WK"
  refine ⟨(pl, goal), rfl, ⟨hp1, hp2⟩, ?_⟩
  rintro d m ⟨rfl, rfl⟩
  dsimp only
  unfold foundD
  cases hb : bestK pl goal (pl.length + 1) with
  | none =>
    have hd : dueP pl goal = .none := by unfold dueP; rw [due_planWs.mpr hb]
    dsimp only
    rw [hd]
    refine ⟨rfl, ?_⟩
    walk_at "WK"
    refine rw_isNN ?_
    walk_at "WK"
    refine ⟨fun _ => ?_, fun z => (nomatch z)⟩
    walk_at "WK"
    refine rw_isNN ?_
    walk_at "WK"
    refine ⟨fun _ => ?_, fun z => (nomatch z)⟩
    walk_at "WK"
    refine ⟨(pl, goal), rfl, ⟨hp1, hp2⟩, ?_⟩
    rintro d m ⟨rfl, rfl⟩
    refine ⟨rfl, ?_⟩
    dsimp only
    rw [hd]
    walk_at "WK"
    refine rw_isNN ?_
    exact ⟨rfl, rfl⟩
  | some b =>
    have hbs : (bestK pl goal (pl.length + 1)).isSome = true := by rw [hb]; rfl
    obtain ⟨r1, r2, r3⟩ := planWs_ok hp1 hp2 hbs
    have hd : dueP pl goal = .int ((planWs pl goal).length : Int) := by unfold dueP; rw [r2]
    dsimp only
    rw [hd]
    refine ⟨rfl, ?_⟩
    walk_at "WK"
    refine rw_isN rfl ?_
    walk_at "WK"
    refine ⟨fun z => (nomatch z), fun _ => ?_⟩
    walk_at "WK"
    refine cw_isiC rfl (ty2_i kc) kc.me ?_
    walk_at "WK"
    refine ⟨fun _ => ?_, fun z => (nomatch z)⟩
    walk_at "WK"
    refine ⟨_, rfl, planWs pl goal, rfl, trivial, ?_⟩
    rintro d m ⟨rfl, rfl⟩
    refine ⟨rfl, ?_⟩
    walk_at "WK"
    refine ⟨fun _ => ?_, fun z => (nomatch z)⟩
    walk_at "WK"
    refine ⟨_, rfl, planWs pl goal, rfl, trivial, ?_⟩
    rintro d m ⟨rfl, rfl⟩
    refine ⟨rfl, ?_⟩
    walk_at "WK"
    refine ⟨fun _ => ?_, fun z => absurd z (by simp)⟩
    walk_at "WK"
    refine cw_lenO rfl ⟨planWs pl goal, rfl, trivial, ?_⟩
    rintro d m ⟨rfl, rfl⟩
    refine ⟨_, rfl, by omega, by have := r3.1; omega, ?_⟩
    walk_at "WK"
    refine ⟨fun z => absurd z (by simp), fun _ => ?_⟩
    walk_at "WJ"
    have hl34 := joinW_len r3.2.1
    refine ws_join (fun e1 => e1 = ⟨[.val (.py (pile pl)), .val (.py (pile goal)), .val (.dct fs), .val (.py (.str (PyData.list [pile pl, pile goal]).shown)), .val (.py (.list (wtx (planWs pl goal)))), .emp, .val (.py (.int ((planWs pl goal).length : Int))), .val (progD C (planWs pl goal)), .emp], m⟩) ?_ ?_
    · walk_at "WK"
      refine ⟨_, rfl, planWs pl goal, rfl, trivial, ?_⟩
      rintro d m ⟨rfl, rfl⟩
      refine ⟨rfl, ?_⟩
      walk_at "WK"
      refine ⟨shp_str (joinW_ok _), shp_str (by decide +kernel), ?_⟩
      rw [eqv_strD]
      by_cases e : planWs pl goal = []
      · rw [e, decide_eq_true joinW_nil]
        refine ⟨fun z => (nomatch z), fun _ => ?_⟩
        walk_at "WK"
        rfl
      · rw [decide_eq_false (joinW_ne e)]
        refine ⟨fun _ => ?_, fun z => (nomatch z)⟩
        refine wp_new (wn_split ?_)
        walk_at "WK"
        refine ⟨_, rfl, planWs pl goal, rfl, trivial, ?_⟩
        rintro d m ⟨rfl, rfl⟩
        refine ⟨rfl, _, rfl, ?_⟩
        walk_at "WK"
        refine ⟨_, rfl, by decide +kernel, Nat.le_trans (show _ ≤ 34002 by have := r3.1; omega) (by rw [sizeLine_eq]; decide), ?_⟩
        rw [split_joinW e]
        have e2 : PyData.list ((List.map Wd.tx (planWs pl goal)).map PyData.str) = .list (wtx (planWs pl goal)) := by unfold wtx; rw [List.map_map]; rfl
        refine ⟨rfl, ?_⟩
        show _ = (⟨[_, _, _, _, .val (.py (.list (wtx (planWs pl goal)))), _, _, _, _], m⟩ : En)
        rw [← e2]
        rfl
    rintro e1 rfl
    walk_at "WK"
    refine ⟨(planWs pl goal, pl, goal), rfl, ⟨r3.2.1, r1, hp1.1⟩, ?_⟩
    rintro d m ⟨rfl, rfl⟩
    refine ⟨rfl, ?_⟩
    walk_at "WK"
    dsimp only
    refine rw_isN rfl ?_
    walk_at "WK"
    refine ⟨fun _ => ?_, fun z => (nomatch z)⟩
    walk_at "WK"
    refine cw_repr rfl rfl (sh_pile hp2) (by decide) (by decide) ?_
    walk_at "WK"
    refine cw_repr rfl rfl (sh_pile hp2) (by decide) (by decide) ?_
    refine rw_neSS ?_
    walk_at "WK"
    refine ⟨fun _ => ?_, fun z => (nomatch z)⟩
    walk_at "WK"
    refine ⟨(pl, goal), rfl, ⟨hp1, hp2⟩, ?_⟩
    rintro d m ⟨rfl, rfl⟩
    refine ⟨rfl, ?_⟩
    dsimp only
    rw [hd]
    walk_at "WK"
    refine ⟨fun z => absurd z (by simp), fun _ => ?_⟩
    walk_at "WK"
    refine ⟨(pl, goal), rfl, ⟨hp1, hp2, hbs⟩, ?_⟩
    rintro d m ⟨rfl, rfl⟩
    refine ⟨rfl, ?_⟩
    dsimp only
    walk_at "WK"
    refine rw_eqO rfl (ty2_i kc) nf_me rfl ⟨(planWs pl goal, planWs pl goal), rfl, trivial, ?_⟩
    rintro d m ⟨rfl, rfl⟩
    refine ⟨_, rfl, ?_⟩
    dsimp only
    rw [decide_eq_true rfl]
    walk_at "WK"
    refine ⟨fun _ => ?_, fun z => (nomatch z)⟩
    walk_at "WK"
    refine cw_repr rfl rfl (sh_piles hp1 hp2) (by decide) (by decide) ?_
    walk_at "WK"
    refine rw_eqSS2 ?_
    exact ⟨rfl, rfl⟩
end
end Wx

/-! ### part T21 -/
set_option Elab.async false
set_option linter.all false
set_option maxRecDepth 100000
set_option maxHeartbeats 1000000
set_option autoImplicit false
namespace Wx
open PySem L2

def prP (x : List Key × List Key) : PyData := .tuple [pile x.1, pile x.2]
instance (l : List Key) : Decidable (okPl l) := by unfold okPl; infer_instance
theorem ok_abc : okPl [.inr "a", .inr "b", .inr "c"] ∧ okPl [.inr "c", .inr "a", .inr "c"] := by decide +kernel
theorem due_abc : (bestK [.inr "a", .inr "b", .inr "c"] [.inr "c", .inr "a", .inr "c"] ([.inr "a", .inr "b", .inr "c"] : List Key).length.succ).isSome = true ∧ (planWs [.inr "a", .inr "b", .inr "c"] [.inr "c", .inr "a", .inr "c"]).length = 4 := by decide +kernel
theorem due_nil : (bestK [] [] 1).isSome = true ∧ planWs [] [] = [] := by decide +kernel
section
variable {P : Program} {w : World} {K : PySem.W.Frag} {mg : Str → Option Value} {base : Heap} {f C CT : Addr} {fd : FuncData}
abbrev sp_law (K : PySem.W.Frag) : Sp := fun vs H Q _ => ∃ a ns, vs = [.ref a] ∧ ns.length ≤ 63 ∧ Da K (fun _ => False) H (.ref a) (.list (List.map PyData.int ns)) ∧ ∀ H', Q (.bl true) H'
theorem body_l {N : List Str} {t : TS} (rd : ∀ (c : Cy) (ns : List Int), c.K = K → c.k = none → ns.length ≤ 63 → Ws c t ⟨Slo.of [.py (.list (ns.map PyData.int))] ++ List.replicate (N.length - [D.py (.list (ns.map PyData.int))].length) .emp, 0⟩ ⟨fun _ => False, fun d _ => d = .py (.bool true), fun _ => False, fun _ => False⟩)
    (vs : List V) (H : Hp) (Q : VK) (E : XK) (h : sp_law K vs H Q E) : t { nx := fun _ H' => Q .non H', rt := Q } (L2.start N vs) H := by
  obtain ⟨a, ns, rfl, hl, hd, hQ⟩ := h
  have g : Good ⟨K, none, fun _ => False, fun a z => nomatch z⟩ 0 H := ⟨fun a z => z.elim, fun a z => nomatch z⟩
  have o := start_ok (c := ⟨K, none, fun _ => False, fun a z => nomatch z⟩) (N := N) (ds := [.py (.list (ns.map PyData.int))]) g (vs := [.ref a]) ⟨hd, True.intro⟩ rfl
  refine (rd ⟨K, none, fun _ => False, fun a z => nomatch z⟩ ns rfl rfl hl).run _ _ H o _ (fun _ _ _ _ z _ _ _ => z.elim) (fun v H' d n q kp g x => ?_) (fun _ _ _ _ z _ _ _ => z.elim) (fun _ _ _ _ z _ _ _ => z.elim)
  subst q
  cases Da.bl_eq x
  exact hQ H'
theorem noK_app {s t : List Slo} (hs : noK s = true) (ht : noK t = true) : noK (s ++ t) = true := by
  unfold noK at *
  rw [List.all_append, hs, ht]
  rfl
theorem sc_law : FnScope ["script", "k", "jar", "most", "pile_here", "goal", "one", "two"] ["script"] (defScope (top 66)) := ⟨rfl, rfl, rfl, by decide +kernel, rfl, by decide +kernel, by decide +kernel⟩
theorem ok_law (F : FnP K "law" "law" (top 66) f fd) (g_range : mg "range" = none) (g_max : mg "max" = none) (S__law_jar : Std P w K mg base 1 "_law_jar" ["script", "k"] (spKiln K)) (g_min : mg "min" = none) (S__law_piles : Std P w K mg base 3 "_law_piles" ["jar", "most"] (sp__law_piles K)) (g_len : mg "len" = none) (g_int : mg "int" = none) (S__law_right : StdG P w K mg base 9 "_law_right" ["pile_here", "goal"] (sp__law_right K)) (S_plan : Std P w K mg base 7 "plan" ["pile", "goal"] (sp_plan K C)) (kc : KitC K C) (pa : PrA K C) (gP : mg "Program" = some (.ref C)) (P_text : StdP P w K mg base 1 C "text" (sp_Program_text K C)) (P_is_plain : StdP P w K mg base 1 C "is_plain" (sp_Program_is_plain K C)) (P_steps : StdP P w K mg base 1 C "steps" (sp_Program_steps K C)) (M_len : StdM P w K mg base 1 C "__len__" (sp_Program___len__ K C)) (M_eq : StdM P w K mg base 1 C "__eq__" (sp_Program___eq__ K C)) : FnG P w K mg base 10 f fd ["script"] (sp_law K) := by
  refine fng_of F sc_law (fun vs H Q E h => by obtain ⟨a, ns, rfl, _⟩ := h; rfl) (fun cdv A outer s H vs Q E hr gd h => ?_)
  have nd := sc_law.nd
  refine ⟨_, PSs.nox (pss_cons (ps_for PassesOwn.never rfl (pi_range1 rfl g_range (pa_cons (pe_callB (callMAX2 rfl) rfl g_max bt_max (pa_cons (pe_int) (pa_cons (pe_callB (callMIN2 rfl) rfl g_min bt_min (pa_cons (pe_int) (pa_cons (pe_callB (lenK (K := K) rfl) rfl g_len PySem.boot_len (pa_cons (pv 0) (pa_nil))) (pa_nil)))) (pa_nil)))) (pa_nil))) (pg_name (i := 1) nd rfl (Or.inl rfl)) (pss_cons (ps_set (i := 2) nd rfl (Or.inl rfl) (pe_std S__law_jar (hr.mono (by decide)) rfl (pa_cons (pv 0) (pa_cons (pv 1) (pa_nil)))))
 (pss_one (ps_for PassesOwn.never rfl (ilistK (K := K) rfl (pe_lst (pa_cons (pe_int) (pa_cons (pe_int) (pa_cons (pe_int) (pa_cons (pe_ix (ixK (K := K) rfl) (pe_lst (pa_cons (pe_int) (pa_cons (pe_int) (pa_nil)))) (pe_callTy callINT1 rfl g_int bt_int (pa_cons (pe_cmpR (eqK (K := K) rfl (room64 hr)) (pv 1) (pe_int) (nomark _)) (pa_nil))) (fun _ _ => rfl)) (pa_nil))))))) (pg_name (i := 3) nd rfl (Or.inl rfl)) (pss_cons (ps_asg (pe_std S__law_piles (hr.mono (by decide)) rfl (pa_cons (pv 2) (pa_cons (pv 3) (pa_nil)))) (gtupK (K := K) (n := 2) rfl rfl (pgs_cons (pg_name (i := 4) nd rfl (Or.inl rfl)) (pgs_cons (pg_name (i := 5) nd rfl (Or.inl rfl)) (pgs_nil)))))
 (pss_one (ps_for PassesOwn.never rfl (ilistK (K := K) rfl (pe_lst (pa_cons (pe_tup (pa_cons (pv 4) (pa_cons (pv 5) (pa_nil)))) (pa_cons (pe_tup (pa_cons (pv 5) (pa_cons (pv 4) (pa_nil)))) (pa_cons (pe_tup (pa_cons (pv 4) (pa_cons (pe_revT (K := K) rfl (pv 4)) (pa_nil)))) (pa_nil)))))) (gtupK (K := K) (n := 2) rfl rfl (pgs_cons (pg_name (i := 6) nd rfl (Or.inl rfl)) (pgs_cons (pg_name (i := 7) nd rfl (Or.inl rfl)) (pgs_nil)))) (pss_one (ps_if (pt_not (truK (K := K) rfl (pe_stdG S__law_right hr gd rfl (pa_cons (pv 6) (pa_cons (pv 7) (pa_nil)))) (by intro _; rfl))) (pss_one (ps_ret (pe_bl))) (pss_nil))))))))))
 (pss_one (ps_ret (pe_and (pe_cmpR (eqK (K := K) rfl (room64 hr)) (pe_propS P_steps kc.cl (hr.mono (by decide)) (pe_std S_plan (hr.mono (by decide)) rfl (pa_cons (pe_tup (pa_cons (pe_str) (pa_cons (pe_str) (pa_cons (pe_str) (pa_nil))))) (pa_cons (pe_tup (pa_cons (pe_str) (pa_cons (pe_str) (pa_cons (pe_str) (pa_nil))))) (pa_nil)))) rfl) (pe_int) (nomark _)) (pe_one (pe_cmpR (eqK (K := K) rfl (room64 hr)) (pe_propS P_text kc.cl (hr.mono (by decide)) (pe_std S_plan (hr.mono (by decide)) rfl (pa_cons (pe_tup (pa_nil)) (pa_cons (pe_tup (pa_nil)) (pa_nil)))) rfl) (pe_str) (nomark _))))))), ?_⟩
  refine body_l ?_ vs H Q E h
  clear h hr gd
  intro c ns hK hk hl
  (subst hK)
  try clear g_range g_max S__law_jar g_min S__law_piles g_len g_int S__law_right S_plan P_text P_is_plain P_steps M_len M_eq F
  walk_at "WJ"
  refine ws_join (fun e1 => ∃ s1 s3 s4 s5 s6 s7, e1 = ⟨[.val (.py (.list (ns.map PyData.int))), s1, .emp, s3, s4, s5, s6, s7], 0⟩) ?_ ?_
  · refine ws_for [1] (wi_rng1 ?_)
    walk_at "WK"
    rw [List.length_map]
    generalize hz : (if (if (ns.length : Int) < 6 then (ns.length : Int) else 6) > 1 then (if (ns.length : Int) < 6 then (ns.length : Int) else 6) else 1) = z
    have hz1 : 0 ≤ z ∧ z ≤ 6 := by rw [← hz]; split <;> split at * <;> omega
    refine ⟨by omega, by omega, fun i e1 => ∃ s1 s3 s4 s5 s6 s7, noK [s3, s4, s5, s6, s7] = true ∧ e1 = ⟨[.val (.py (.list (ns.map PyData.int))), s1, .emp, s3, s4, s5, s6, s7], 0⟩, ⟨.emp, .emp, .emp, .emp, .emp, .emp, rfl, rfl⟩, ?_, fun e1 ⟨s1, s3, s4, s5, s6, s7, _, h⟩ => ⟨s1, s3, s4, s5, s6, s7, h⟩⟩
    rintro i d e1 hd ⟨s1, s3, s4, s5, s6, s7, hno, rfl⟩
    obtain ⟨hik, rfl⟩ := seqI_of hd
    refine wg_name ⟨rfl, ?_⟩ (Nat.le_of_ble_eq_true rfl) (by decide)
    have nok : ∀ {r : List Slo}, noK r = true → noK (.val (.py (.list (ns.map PyData.int))) :: .val (.py (.int (0 + (i : Int) * 1))) :: .emp :: r) = true := fun {r} h =>
      noK_app (s := [.val (.py (.list (ns.map PyData.int))), .val (.py (.int (0 + (i : Int) * 1))), .emp]) (t := r) rfl h
    refine ws_kln (is := 0) (ik := 1) (i := 2) (ns := ns) (k := 0 + (i : Int) * 1) rfl hk rfl rfl (by omega) (by omega) (Nat.le_of_ble_eq_true rfl) (nok hno) fun c' hK' => ?_
    rw [← hK'] at *
    refine ws_for [3] (wi_list rfl ?_)
    walk_at "WK"
    obtain ⟨u, eu, u0, u1⟩ := at2K (fun v => 0 ≤ v ∧ v ≤ 60) (i := 40) (j := 60) (r := if decide (0 + (i : Int) * 1 = 0) = true then 1 else 0) ⟨by decide, by decide⟩ ⟨by decide, by decide⟩ (by split <;> decide) (by split <;> decide)
    refine ⟨_, eu, ?_⟩
    clear eu
    walk_at "WK"
    refine ⟨fun q e1 => ∃ s3 s4 s5 s6 s7 n', noK [s3, s4, s5, s6, s7] = true ∧ n' ≤ 5000 * q ∧ q ≤ 4 ∧ e1 = ⟨[.val (.py (.list (ns.map PyData.int))), .val (.py (.int (0 + (i : Int) * 1))), .val .kln, s3, s4, s5, s6, s7], n'⟩, ⟨_, _, _, _, _, _, hno, Nat.le_refl _, by decide, rfl⟩, ?_, ?_⟩
    · rintro q d e1 hd ⟨s3, s4, s5, s6, s7, n', hno, hn', hq, rfl⟩
      have hq3 : q < 4 := (List.getElem?_eq_some_iff.mp hd).1
      obtain ⟨b, rfl, hb0, hb1⟩ : ∃ b : Int, d = .py (.int b) ∧ 0 ≤ b ∧ b ≤ 60 := by
        have hm := List.mem_of_getElem? hd
        simp only [List.map_cons, List.map_nil, List.mem_cons, List.not_mem_nil, or_false] at hm
        rcases hm with rfl | rfl | rfl | rfl
        · exact ⟨3, rfl, by decide, by decide⟩
        · exact ⟨8, rfl, by decide, by decide⟩
        · exact ⟨25, rfl, by decide, by decide⟩
        · exact ⟨u, rfl, u0, u1⟩
      refine wg_name ⟨rfl, ?_⟩ (Nat.le_of_ble_eq_true rfl) (by decide)
      walk_at "WK"
      refine ⟨b, rfl, ⟨hb0, hb1, by (try dsimp only); omega⟩, ?_⟩
      rintro d m2 ⟨⟨pl, goal, rfl, hp1, hp2⟩, hm2⟩
      try dsimp only at hm2
      refine ⟨rfl, ?_⟩
      walk_at "WJ"
      have h8 : noK [s6, s7] = true := by
        unfold noK at hno ⊢
        rw [List.all_eq_true] at hno ⊢
        intro x hx
        exact hno x (by simp only [List.mem_cons, List.not_mem_nil, or_false] at hx ⊢; rcases hx with h | h <;> simp [h])
      refine ws_for [6, 7] (wi_list rfl ?_)
      walk_at "WK"
      refine wp_revT rfl ?_
      walk_at "WK"
      refine ⟨_, rfl, ?_⟩
      rw [show (labs pl).reverse = labs pl.reverse from (List.map_reverse).symm]
      have hpr : okPl pl.reverse := ⟨by rw [List.length_reverse]; exact hp1.1, fun k hk => hp1.2 k (List.mem_reverse.mp hk)⟩
      walk_at "WK"
      show ∃ I, _
      refine ⟨fun _ e1 => ∃ s6 s7, noK [s6, s7] = true ∧ e1 = ⟨[.val (.py (.list (ns.map PyData.int))), .val (.py (.int (0 + (i : Int) * 1))), .val .kln, .val (.py (.int b)), .val (.py (pile pl)), .val (.py (pile goal)), s6, s7], m2⟩, ⟨s6, s7, h8, rfl⟩, ?_, ?_⟩
      · rintro j d e1 hd ⟨s6, s7, h8, rfl⟩
        obtain ⟨one, two, rfl, ho, ht⟩ : ∃ one two, d = .py (prP (one, two)) ∧ okPl one ∧ okPl two := by
          have hm := List.mem_of_getElem? hd
          simp only [List.map_cons, List.map_nil, List.mem_cons, List.not_mem_nil, or_false] at hm
          rcases hm with rfl | rfl | rfl
          · exact ⟨pl, goal, rfl, hp1, hp2⟩
          · exact ⟨goal, pl, rfl, hp2, hp1⟩
          · exact ⟨pl, pl.reverse, rfl, hp1, hpr⟩
        refine wg_pair rfl ⟨_, _, rfl, wg_name ⟨rfl, wg_name ⟨rfl, ?_⟩ (Nat.le_of_ble_eq_true rfl) (by decide)⟩ (Nat.le_of_ble_eq_true rfl) (by decide)⟩
        walk_at "WK"
        refine ⟨(one, two), rfl, ⟨ho, ht⟩, ?_⟩
        rintro d m ⟨rfl, rfl⟩
        refine ⟨rfl, ?_⟩
        walk_at "WK"
        refine ⟨fun z => (nomatch z), fun _ => ?_⟩
        walk_at "WK"
        exact ⟨.val (.py (pile one)), .val (.py (pile two)), rfl, rfl⟩
      · rintro e1 ⟨s6, s7, h8, rfl⟩
        refine ⟨_, _, _, _, _, _, ?_, by (try dsimp only); omega, by omega, rfl⟩
        exact noK_app (s := [.val (.py (.int b)), .val (.py (pile pl)), .val (.py (pile goal))]) (t := [s6, s7]) rfl h8
    · rintro e1 ⟨s3, s4, s5, s6, s7, n', hno, hn', hq, rfl⟩
      exact ⟨nok hno, Nat.le_of_ble_eq_true rfl, _, _, _, _, _, _, hno, rfl⟩
  rintro e1 ⟨s1, s3, s4, s5, s6, s7, rfl⟩
  walk_at "WK"
  refine ⟨([.inr "a", .inr "b", .inr "c"], [.inr "c", .inr "a", .inr "c"]), rfl, ⟨ok_abc.1, ok_abc.2, due_abc.1⟩, ?_⟩
  rintro d m ⟨rfl, rfl⟩
  refine ⟨rfl, ?_⟩
  dsimp only
  refine ⟨_, rfl, _, rfl, trivial, ?_⟩
  rintro d m ⟨rfl, rfl⟩
  refine ⟨rfl, ?_⟩
  rw [due_abc.2]
  walk_at "WK"
  refine ⟨fun _ => ?_, fun z => (nomatch z)⟩
  walk_at "WK"
  refine ⟨([], []), rfl, ⟨⟨by decide, fun k hk => (by cases hk)⟩, ⟨by decide, fun k hk => (by cases hk)⟩, due_nil.1⟩, ?_⟩
  rintro d m ⟨rfl, rfl⟩
  refine ⟨rfl, ?_⟩
  dsimp only
  refine ⟨_, rfl, _, rfl, trivial, ?_⟩
  rintro d m ⟨rfl, rfl⟩
  refine ⟨rfl, ?_⟩
  rw [due_nil.2, joinW_nil]
  walk_at "WK"
  first | exact ⟨rfl, rfl⟩ | rfl
end
end Wx

/-! ### part Hx0 -/
set_option Elab.async false
set_option linter.all false
set_option maxRecDepth 100000
set_option maxHeartbeats 1000000
set_option autoImplicit false
/-! What the head says of an own exception without fields. -/
namespace Wx
open PySem L2 PyProof.Rows
theorem ex0_ok {K : PySem.W.Frag} {mg : Str → Option Value} {x : Str} {C : Addr} (q : ex0B K C = true) (g : mg x = some (.ref C)) : Ex0 K mg x C := by
  obtain ⟨h1, q⟩ := He.ba q
  obtain ⟨h2, q⟩ := He.ba q
  obtain ⟨h3, q⟩ := He.ba q
  obtain ⟨h4, q⟩ := He.ba q
  obtain ⟨h5, q⟩ := He.ba q
  obtain ⟨h6, q⟩ := He.ba q
  obtain ⟨h7, q⟩ := He.ba q
  obtain ⟨h8, q⟩ := He.ba q
  obtain ⟨h9, q⟩ := He.ba q
  obtain ⟨ha, q⟩ := He.ba q
  obtain ⟨hb, q⟩ := He.ba q
  obtain ⟨hc, hd⟩ := He.ba q
  exact ⟨g, h1, h2, of_decide_eq_true h3, of_decide_eq_true h4, of_decide_eq_true h5, ⟨He.eqO_ok h6, He.eqO_ok h7, of_decide_eq_true h8, h9, He.eqO_ok ha, He.eqO_ok hb, of_decide_eq_true hc, of_decide_eq_true hd⟩⟩
end Wx

/-! ### part H9 -/
set_option Elab.async false
set_option linter.all false
set_option maxRecDepth 100000
set_option maxHeartbeats 0
set_option autoImplicit false
/-! The head's facts. -/
namespace Wx
open PySem L2 PyProof.Rows
theorem get_ok {K : PySem.W.Frag} {C : Addr} {d : GetD} (hb : getB K C d = true) (hv : fnAt K (gad K C d.name) = getV d) : ∃ fd, FunD K d.name ("Program." ++ d.name) (defArgs d.st) (defBody d.st) (defScope d.st) [] [] (gad K C d.name) fd ∧ PropOf K C d.name (pad K C d.name) (gad K C d.name) := by
  obtain ⟨b1, hb⟩ := He.ba hb
  obtain ⟨b2, hb⟩ := He.ba hb
  obtain ⟨b3, hb⟩ := He.ba hb
  obtain ⟨b4, hb⟩ := He.ba hb
  obtain ⟨b5, b6⟩ := He.ba hb
  have rc : ∃ rest, PySem.W.recIn K (pad K C d.name) "property" = some (.ref (gad K C d.name) :: rest) := by
    unfold gad
    cases z : PySem.W.recIn K (pad K C d.name) "property" with
    | none => rw [z] at b4; cases b4
    | some l =>
      cases l with
      | nil => rw [z] at b4; cases b4
      | cons v r =>
        cases v <;> first | exact ⟨r, rfl⟩ | (rw [z] at b4; cases b4)
  have pr : PropOf K C d.name (pad K C d.name) (gad K C d.name) := ⟨He.eqO_ok b1, He.eqO_ok b2, dec b3, rc⟩
  unfold fnAt getV at hv
  cases z : K.lookup (gad K C d.name) with
  | none => rw [z] at b6; cases b6
  | some o =>
    obtain ⟨oc, od, dt, osl⟩ := o
    rw [z] at b6 hv
    cases dt with
    | func fd =>
      obtain ⟨n1, n2, n3, n4, n5, n6, n7, n8, n9, n10, n11, n12, n13, n14, n15⟩ := fd
      simp only [Option.some.injEq, Prod.mk.injEq] at hv
      obtain ⟨h1, h2, h3, h4, h5, h6, h7, h8⟩ := hv
      subst h1 h2 h3 h4 h5 h6 h7 h8
      have b6' : (PySem.W.codeIn K n13 ("Program." ++ d.name) && (He.dflB K n8 [] && He.kwdB K n9 [])) = true := b6
      obtain ⟨c1, c2⟩ := He.ba b6'
      obtain ⟨c3, c4⟩ := He.ba c2
      exact ⟨_, ⟨⟨oc, od, n8, n9, n10, n11, n12, n13, n14, osl, rfl, z, c1, He.dflB_ok c3, He.kwdB_ok c4⟩, b5⟩, pr⟩
    | _ => cases b6
abbrev GetE (K : PySem.W.Frag) (d : GetD) : Prop := ∃ fd, FunD K d.name ("Program." ++ d.name) (defArgs d.st) (defBody d.st) (defScope d.st) [] [] (gad K (He.ga K "Program") d.name) fd ∧ PropOf K (He.ga K "Program") d.name (pad K (He.ga K "Program") d.name) (gad K (He.ga K "Program") d.name)
theorem More.all {K : PySem.W.Frag} (m : More K) (cl : Cls K (He.ga K "Program")) : KitC K (He.ga K "Program") ∧ PySem.W.findIn K (.ref (He.ga K "Program")) "__ne__" = some (some (.builtin "object.__ne__")) ∧ PySem.W.selfFirst K (He.ga K "Program") = true ∧ true = true ∧ GetE K (gs[0]'(by decide)) ∧ GetE K (gs[1]'(by decide)) ∧ GetE K (gs[2]'(by decide)) := by
  obtain ⟨h, _⟩ := He.ba m.b
  obtain ⟨c1, h⟩ := He.ba h
  obtain ⟨c2, h⟩ := He.ba h
  obtain ⟨c3, h⟩ := He.ba h
  obtain ⟨c4, h⟩ := He.ba h
  obtain ⟨c5, h⟩ := He.ba h
  obtain ⟨c6, h⟩ := He.ba h
  obtain ⟨c7, h⟩ := He.ba h
  obtain ⟨x1, h⟩ := He.ba h
  obtain ⟨x2, c8⟩ := He.ba h
  have get : ∀ (i : Nat) (hi : i < gs.length), GetE K gs[i] := fun i hi => by
    refine get_ok (List.all_eq_true.mp c8 _ (List.getElem_mem hi)) ?_
    have z : (gs.map (fun d => fnAt K (gad K (He.ga K "Program") d.name)))[i]? = (gs.map getV)[i]? := by rw [m.v]
    rw [List.getElem?_map, List.getElem?_map, List.getElem?_eq_getElem hi] at z
    exact Option.some.inj z
  refine ⟨⟨cl, He.eqO_ok c1, He.eqO_ok c2, dec c3, dec c4, dec c5, fun s hs => ?_⟩, He.eqO_ok c7, x1, x2, get 0 _, get 1 _, get 2 _⟩
  obtain ⟨z1, z2⟩ := He.ba (List.all_eq_true.mp c6 s hs)
  exact ⟨dec z1, z2⟩
theorem facts {P : Program} {w : World} {K : PySem.W.Frag} {h : Heap} {mg : Str → Option Value} {f : Addr} (X : K.In h) (G : h.Ns mainGlobals mg) (hfa : mg ("law" : Str) = some (.ref f)) (c : He.SaysD fa fn K) (b : More K) :
    ∃ fd : FuncData, (∀ (s : Shared) (v : Value), BindsTo s fd ⟨[v], []⟩ [("script", v)]) ∧ ∀ base : Heap, K.In base → base.Ns mainGlobals mg → FnG P w K mg base 10 f fd ["script"] (sp_law K) := by
  obtain ⟨fd, F⟩ := c.def_ 40 (d := d_law) rfl
  have e := hfa.symm.trans (He.glo_ok X G (c.fact 40 (f := .glo "law") rfl))
  cases e
  have bl := FunD.bindsA (ps := ["script"]) F fun _ _ _ _ _ _ us hl => match us, hl with | [_], _ => rfl
  refine ⟨fd, fun s v => bl s [v] rfl, fun base _ _ => ?_⟩
  have g_isinstance : mg "isinstance" = none := He.free_ok X G (c.fact 42 (f := .free "isinstance") rfl)
  have g_int : mg "int" = none := He.free_ok X G (c.fact 43 (f := .free "int") rfl)
  have g_bool : mg "bool" = none := He.free_ok X G (c.fact 44 (f := .free "bool") rfl)
  have g_all : mg "all" = none := He.free_ok X G (c.fact 45 (f := .free "all") rfl)
  have g_len : mg "len" = none := He.free_ok X G (c.fact 46 (f := .free "len") rfl)
  have g_enumerate : mg "enumerate" = none := He.free_ok X G (c.fact 47 (f := .free "enumerate") rfl)
  have g_tuple : mg "tuple" = none := He.free_ok X G (c.fact 48 (f := .free "tuple") rfl)
  have g_max : mg "max" = none := He.free_ok X G (c.fact 49 (f := .free "max") rfl)
  have g_str : mg "str" = none := He.free_ok X G (c.fact 50 (f := .free "str") rfl)
  have g_sum : mg "sum" = none := He.free_ok X G (c.fact 51 (f := .free "sum") rfl)
  have g_range : mg "range" = none := He.free_ok X G (c.fact 52 (f := .free "range") rfl)
  have g_list : mg "list" = none := He.free_ok X G (c.fact 53 (f := .free "list") rfl)
  have g_min : mg "min" = none := He.free_ok X G (c.fact 54 (f := .free "min") rfl)
  have g_ValueError : mg "ValueError" = none := He.free_ok X G (c.fact 55 (f := .free "ValueError") rfl)
  have g_dict : mg "dict" = none := He.free_ok X G (c.fact 56 (f := .free "dict") rfl)
  have g_repr : mg "repr" = none := He.free_ok X G (c.fact 57 (f := .free "repr") rfl)
  have i_GREATEST : GInt mg "GREATEST" (10 ^ 30) := He.int_ok X G (c.fact 58 (f := .int "GREATEST" (10 ^ 30)) rfl)
  have i_MOST_DIGITS : GInt mg "MOST_DIGITS" 31 := He.int_ok X G (c.fact 59 (f := .int "MOST_DIGITS" 31) rfl)
  have i_MOST_HIGH : GInt mg "MOST_HIGH" 100 := He.int_ok X G (c.fact 60 (f := .int "MOST_HIGH" 100) rfl)
  have i_MOST_WORDS : GInt mg "MOST_WORDS" 1000 := He.int_ok X G (c.fact 61 (f := .int "MOST_WORDS" 1000) rfl)
  have i_MOST_LETTERS : GInt mg "MOST_LETTERS" 8 := He.int_ok X G (c.fact 62 (f := .int "MOST_LETTERS" 8) rfl)
  have i_MOST_LABELS : GInt mg "MOST_LABELS" 60 := He.int_ok X G (c.fact 63 (f := .int "MOST_LABELS" 60) rfl)
  have s_DIGITS : GStr mg "DIGITS" "0123456789" := He.str_ok X G (c.fact 64 (f := .str "DIGITS" "0123456789") rfl)
  have s_LETTERS : GStr mg "LETTERS" "abcdefghijklmnopqrstuvwxyz" := He.str_ok X G (c.fact 65 (f := .str "LETTERS" "abcdefghijklmnopqrstuvwxyz") rfl)
  have gP : mg "Program" = some (.ref (He.ga K "Program")) := He.glo_ok X G (c.fact 41 (f := .glo "Program") rfl)
  have a1 : NoAttr K (He.ga K "Program") "own_text" := He.noat_ok (c.fact 68 (f := .noat "Program" "own_text") rfl)
  have a2 : NoAttr K (He.ga K "Program") "own_words" := He.noat_ok (c.fact 69 (f := .noat "Program" "own_words") rfl)
  have a3 : NoAttr K (He.ga K "Program") "own_nodes" := He.noat_ok (c.fact 70 (f := .noat "Program" "own_nodes") rfl)
  have a4 : NoAttr K (He.ga K "Program") "own_need" := He.noat_ok (c.fact 71 (f := .noat "Program" "own_need") rfl)
  have a5 : NoAttr K (He.ga K "Program") "own_rise" := He.noat_ok (c.fact 72 (f := .noat "Program" "own_rise") rfl)
  have a6 : NoAttr K (He.ga K "Program") "own_growth" := He.noat_ok (c.fact 73 (f := .noat "Program" "own_growth") rfl)
  have a7 : NoAttr K (He.ga K "Program") "own_plain" := He.noat_ok (c.fact 74 (f := .noat "Program" "own_plain") rfl)
  have a8 : NoAttr K (He.ga K "Program") "own_steps" := He.noat_ok (c.fact 75 (f := .noat "Program" "own_steps") rfl)
  have a9 : NoAttr K (He.ga K "Program") "own_open" := He.noat_ok (c.fact 76 (f := .noat "Program" "own_open") rfl)
  have cl : Cls K (He.ga K "Program") := He.cls_ok (c.fact 67 (f := .cls "Program") rfl)
  obtain ⟨kc, ne, sf, fi, P0, P1, P2⟩ := b.all cl
  have pa : PrA K (He.ga K "Program") := ⟨cl, a1, a2, a3, a4, a5, a6, a7, a8, a9⟩
  obtain ⟨_, eb⟩ := He.ba b.b
  have gNotReachable : mg "NotReachable" = some (.ref (He.ga K "NotReachable")) := He.glo_ok X G (c.fact 66 (f := .glo "NotReachable") rfl)
  have X0 : Ex0 K mg "NotReachable" (He.ga K "NotReachable") := ex0_ok eb gNotReachable
  obtain ⟨fd___len__, F___len__⟩ := c.def_ 42 (d := d_m__len__) rfl
  have M_len : StdM P w K mg base 1 (He.ga K "Program") "__len__" (sp_Program___len__ K (He.ga K "Program")) := ⟨_, fd___len__, ["self"], He.meth_ok (c.fact 78 (f := .meth "Program" "__len__") rfl), ok_Program___len__ F___len__ g_len kc pa gP, F___len__.bindsN (fun _ _ _ _ _ _ us hl => match us, hl with | [_], _ => rfl)⟩
  obtain ⟨fd___eq__, F___eq__⟩ := c.def_ 43 (d := d_m__eq__) rfl
  have M_eq : StdM P w K mg base 1 (He.ga K "Program") "__eq__" (sp_Program___eq__ K (He.ga K "Program")) := ⟨_, fd___eq__, ["self", "other"], He.meth_ok (c.fact 79 (f := .meth "Program" "__eq__") rfl), ok_Program___eq__ F___eq__ g_isinstance kc pa gP, F___eq__.bindsN (fun _ _ _ _ _ _ us hl => match us, hl with | [_, _], _ => rfl)⟩
  obtain ⟨fd_text, F_text, Q_text⟩ := P0
  have P_text : StdP P w K mg base 1 (He.ga K "Program") "text" (sp_Program_text K (He.ga K "Program")) := ⟨_, _, fd_text, ["self"], Q_text, ok_Program_text F_text kc pa gP, F_text.bindsN (fun _ _ _ _ _ _ us hl => match us, hl with | [_], _ => rfl)⟩
  obtain ⟨fd_is_plain, F_is_plain, Q_is_plain⟩ := P1
  have P_is_plain : StdP P w K mg base 1 (He.ga K "Program") "is_plain" (sp_Program_is_plain K (He.ga K "Program")) := ⟨_, _, fd_is_plain, ["self"], Q_is_plain, ok_Program_is_plain F_is_plain kc pa gP, F_is_plain.bindsN (fun _ _ _ _ _ _ us hl => match us, hl with | [_], _ => rfl)⟩
  obtain ⟨fd_steps, F_steps, Q_steps⟩ := P2
  have P_steps : StdP P w K mg base 1 (He.ga K "Program") "steps" (sp_Program_steps K (He.ga K "Program")) := ⟨_, _, fd_steps, ["self"], Q_steps, ok_Program_steps F_steps kc pa gP, F_steps.bindsN (fun _ _ _ _ _ _ us hl => match us, hl with | [_], _ => rfl)⟩
  obtain ⟨fd_is_int, F_is_int⟩ := c.def_ 0 (d := d_is_int) rfl
  have S_is_int : Std P w K mg base 1 "is_int" ["value"] (sp_is_int K) := ⟨_, fd_is_int, ok_is_int F_is_int g_isinstance g_int g_bool, He.glo_ok X G (c.fact 0 (f := .glo "is_int") rfl), F_is_int.kp, F_is_int.bindsN (fun _ _ _ _ _ _ us hl => match us, hl with | [_], _ => rfl)⟩
  obtain ⟨fd_is_decimal, F_is_decimal⟩ := c.def_ 3 (d := d_is_decimal) rfl
  have S_is_decimal : Std P w K mg base 1 "is_decimal" ["signs", "low", "high"] (sp_is_decimal K) := ⟨_, fd_is_decimal, ok_is_decimal F_is_decimal i_MOST_DIGITS g_all g_len s_DIGITS g_int, He.glo_ok X G (c.fact 3 (f := .glo "is_decimal") rfl), F_is_decimal.kp, F_is_decimal.bindsN (fun _ _ _ _ _ _ us hl => match us, hl with | [_, _, _], _ => rfl)⟩
  obtain ⟨fd_measure_of, F_measure_of⟩ := c.def_ 6 (d := d_measure_of) rfl
  have S_measure_of : Std P w K mg base 1 "measure_of" ["word"] (sp_measure_of K) := ⟨_, fd_measure_of, ok_measure_of F_measure_of g_int, He.glo_ok X G (c.fact 6 (f := .glo "measure_of") rfl), F_measure_of.kp, F_measure_of.bindsN (fun _ _ _ _ _ _ us hl => match us, hl with | [_], _ => rfl)⟩
  obtain ⟨fd_words_of, F_words_of⟩ := c.def_ 7 (d := d_words_of) rfl
  have S_words_of : Std P w K mg base 1 "words_of" ["text"] (sp_words_of K) := ⟨_, fd_words_of, ok_words_of F_words_of , He.glo_ok X G (c.fact 7 (f := .glo "words_of") rfl), F_words_of.kp, F_words_of.bindsN (fun _ _ _ _ _ _ us hl => match us, hl with | [_], _ => rfl)⟩
  obtain ⟨fd_nodes_from, F_nodes_from⟩ := c.def_ 9 (d := d_nodes_from) rfl
  have S_nodes_from : Std P w K mg base 1 "nodes_from" ["words", "place"] (sp_nodes_from K) := ⟨_, fd_nodes_from, ok_nodes_from F_nodes_from g_len g_int g_tuple, He.glo_ok X G (c.fact 9 (f := .glo "nodes_from") rfl), F_nodes_from.kp, F_nodes_from.bindsN (fun _ _ _ _ _ _ us hl => match us, hl with | [_, _], _ => rfl)⟩
  obtain ⟨fd_joined_measure, F_joined_measure⟩ := c.def_ 11 (d := d_joined_measure) rfl
  have S_joined_measure : Std P w K mg base 1 "joined_measure" ["measure", "other"] (sp_joined_measure K) := ⟨_, fd_joined_measure, ok_joined_measure F_joined_measure g_max, He.glo_ok X G (c.fact 11 (f := .glo "joined_measure") rfl), F_joined_measure.kp, F_joined_measure.bindsN (fun _ _ _ _ _ _ us hl => match us, hl with | [_, _], _ => rfl)⟩
  obtain ⟨fd_is_plain_in, F_is_plain_in⟩ := c.def_ 13 (d := d_is_plain_in) rfl
  have S_is_plain_in : Std P w K mg base 1 "is_plain_in" ["nodes"] (sp_is_plain_in K) := ⟨_, fd_is_plain_in, ok_is_plain_in F_is_plain_in g_all, He.glo_ok X G (c.fact 13 (f := .glo "is_plain_in") rfl), F_is_plain_in.kp, F_is_plain_in.bindsN (fun _ _ _ _ _ _ us hl => match us, hl with | [_], _ => rfl)⟩
  obtain ⟨fd_length_in, F_length_in⟩ := c.def_ 14 (d := d_length_in) rfl
  have S_length_in : Std P w K mg base 1 "length_in" ["nodes"] (sp_length_in K) := ⟨_, fd_length_in, ok_length_in F_length_in , He.glo_ok X G (c.fact 14 (f := .glo "length_in") rfl), F_length_in.kp, F_length_in.bindsN (fun _ _ _ _ _ _ us hl => match us, hl with | [_], _ => rfl)⟩
  obtain ⟨fd_open_in, F_open_in⟩ := c.def_ 15 (d := d_open_in) rfl
  have S_open_in : Std P w K mg base 1 "open_in" ["words"] (sp_open_in K) := ⟨_, fd_open_in, ok_open_in F_open_in g_max g_int, He.glo_ok X G (c.fact 15 (f := .glo "open_in") rfl), F_open_in.kp, F_open_in.bindsN (fun _ _ _ _ _ _ us hl => match us, hl with | [_], _ => rfl)⟩
  obtain ⟨fd_is_symbol, F_is_symbol⟩ := c.def_ 16 (d := d_is_symbol) rfl
  have S_is_symbol : Std P w K mg base 1 "is_symbol" ["value"] (sp_is_symbol K) := ⟨_, fd_is_symbol, ok_is_symbol F_is_symbol g_isinstance g_str i_MOST_LETTERS g_len g_all s_LETTERS, He.glo_ok X G (c.fact 16 (f := .glo "is_symbol") rfl), F_is_symbol.kp, F_is_symbol.bindsN (fun _ _ _ _ _ _ us hl => match us, hl with | [_], _ => rfl)⟩
  obtain ⟨fd_counts_of, F_counts_of⟩ := c.def_ 19 (d := d_counts_of) rfl
  have S_counts_of : Std P w K mg base 1 "counts_of" ["labels"] (sp_counts_of K) := ⟨_, fd_counts_of, ok_counts_of F_counts_of , He.glo_ok X G (c.fact 19 (f := .glo "counts_of") rfl), F_counts_of.kp, F_counts_of.bindsN (fun _ _ _ _ _ _ us hl => match us, hl with | [_], _ => rfl)⟩
  have S_counts_ofN : Std P w K mg base 1 "counts_of" ["labels"] (sp_counts_ofN K) := ⟨_, fd_counts_of, ok_counts_ofN F_counts_of , He.glo_ok X G (c.fact 19 (f := .glo "counts_of") rfl), F_counts_of.kp, F_counts_of.bindsN (fun _ _ _ _ _ _ us hl => match us, hl with | [_], _ => rfl)⟩
  obtain ⟨fd_standing_in, F_standing_in⟩ := c.def_ 20 (d := d_standing_in) rfl
  have S_standing_in : Std P w K mg base 1 "standing_in" ["pile", "goal"] (sp_standing_in K) := ⟨_, fd_standing_in, ok_standing_in F_standing_in g_enumerate g_len, He.glo_ok X G (c.fact 20 (f := .glo "standing_in") rfl), F_standing_in.kp, F_standing_in.bindsN (fun _ _ _ _ _ _ us hl => match us, hl with | [_, _], _ => rfl)⟩
  obtain ⟨fd_topmost, F_topmost⟩ := c.def_ 25 (d := d_topmost) rfl
  have S_topmost : Std P w K mg base 1 "topmost" ["cells", "wanted"] (sp_topmost K) := ⟨_, fd_topmost, ok_topmost F_topmost g_enumerate, He.glo_ok X G (c.fact 25 (f := .glo "topmost") rfl), F_topmost.kp, F_topmost.bindsN (fun _ _ _ _ _ _ us hl => match us, hl with | [_, _], _ => rfl)⟩
  obtain ⟨fd_cleared, F_cleared⟩ := c.def_ 26 (d := d_cleared) rfl
  have S_cleared : Std P w K mg base 1 "cleared" ["cells"] (sp_cleared K) := ⟨_, fd_cleared, ok_cleared F_cleared g_list g_range g_len, He.glo_ok X G (c.fact 26 (f := .glo "cleared") rfl), F_cleared.kp, F_cleared.bindsN (fun _ _ _ _ _ _ us hl => match us, hl with | [_], _ => rfl)⟩
  obtain ⟨fd__law_jar, F__law_jar⟩ := c.def_ 31 (d := d__law_jar) rfl
  have S__law_jar : Std P w K mg base 1 "_law_jar" ["script", "k"] (spKiln K) := ⟨_, fd__law_jar, ok__law_jar F__law_jar g_len g_max, He.glo_ok X G (c.fact 31 (f := .glo "_law_jar") rfl), F__law_jar.kp, F__law_jar.bindsN (fun _ _ _ _ _ _ us hl => match us, hl with | [_, _], _ => rfl)⟩
  obtain ⟨fd__law_ladle, F__law_ladle⟩ := c.def_ 32 (d := d__law_ladle) rfl
  have S__law_ladle : Std P w K mg base 1 "_law_ladle" ["jar", "many"] (sp__law_ladle K) := ⟨_, fd__law_ladle, ok__law_ladle F__law_ladle , He.glo_ok X G (c.fact 32 (f := .glo "_law_ladle") rfl), F__law_ladle.kp, F__law_ladle.bindsN (fun _ _ _ _ _ _ us hl => match us, hl with | [_, _], _ => rfl)⟩
  obtain ⟨fd__law_fewest, F__law_fewest⟩ := c.def_ 35 (d := d__law_fewest) rfl
  have S__law_fewest : Std P w K mg base 1 "_law_fewest" ["pile_here", "goal", "free"] (sp__law_fewest K) := ⟨_, fd__law_fewest, ok__law_fewest F__law_fewest g_range g_len g_sum g_int g_min g_max, He.glo_ok X G (c.fact 35 (f := .glo "_law_fewest") rfl), F__law_fewest.kp, F__law_fewest.bindsN (fun _ _ _ _ _ _ us hl => match us, hl with | [_, _, _], _ => rfl)⟩
  obtain ⟨fd__law_step, F__law_step⟩ := c.def_ 36 (d := d__law_step) rfl
  have S__law_step : Std P w K mg base 1 "_law_step" ["cells", "word", "fresh"] (sp__law_step K) := ⟨_, fd__law_step, ok__law_step F__law_step g_int g_len, He.glo_ok X G (c.fact 36 (f := .glo "_law_step") rfl), F__law_step.kp, F__law_step.bindsN (fun _ _ _ _ _ _ us hl => match us, hl with | [_, _, _], _ => rfl)⟩
  obtain ⟨fd_in_range, F_in_range⟩ := c.def_ 1 (d := d_in_range) rfl
  have S_in_range : Std P w K mg base 2 "in_range" ["value", "low", "high"] (sp_in_range K) := ⟨_, fd_in_range, ok_in_range F_in_range S_is_int, He.glo_ok X G (c.fact 1 (f := .glo "in_range") rfl), F_in_range.kp, F_in_range.bindsN (fun _ _ _ _ _ _ us hl => match us, hl with | [_, _, _], _ => rfl)⟩
  obtain ⟨fd_is_constant_word, F_is_constant_word⟩ := c.def_ 4 (d := d_is_constant_word) rfl
  have S_is_constant_word : Std P w K mg base 2 "is_constant_word" ["word"] (sp_is_constant_word K) := ⟨_, fd_is_constant_word, ok_is_constant_word F_is_constant_word S_is_decimal i_GREATEST, He.glo_ok X G (c.fact 4 (f := .glo "is_constant_word") rfl), F_is_constant_word.kp, F_is_constant_word.bindsN (fun _ _ _ _ _ _ us hl => match us, hl with | [_], _ => rfl)⟩
  obtain ⟨fd_nodes_in, F_nodes_in⟩ := c.def_ 10 (d := d_nodes_in) rfl
  have S_nodes_in : Std P w K mg base 2 "nodes_in" ["words"] (sp_nodes_in K) := ⟨_, fd_nodes_in, ok_nodes_in F_nodes_in S_nodes_from, He.glo_ok X G (c.fact 10 (f := .glo "nodes_in") rfl), F_nodes_in.kp, F_nodes_in.bindsN (fun _ _ _ _ _ _ us hl => match us, hl with | [_], _ => rfl)⟩
  obtain ⟨fd_measure_in, F_measure_in⟩ := c.def_ 12 (d := d_measure_in) rfl
  have S_measure_in : Std P w K mg base 2 "measure_in" ["nodes"] (sp_measure_in K) := ⟨_, fd_measure_in, ok_measure_in F_measure_in S_joined_measure S_measure_of, He.glo_ok X G (c.fact 12 (f := .glo "measure_in") rfl), F_measure_in.kp, F_measure_in.bindsN (fun _ _ _ _ _ _ us hl => match us, hl with | [_], _ => rfl)⟩
  obtain ⟨fd_fewest_behind, F_fewest_behind⟩ := c.def_ 21 (d := d_fewest_behind) rfl
  have S_fewest_behind : Std P w K mg base 2 "fewest_behind" ["pile", "goal"] (sp_fewest_behind K) := ⟨_, fd_fewest_behind, ok_fewest_behind F_fewest_behind S_counts_of g_sum g_max g_len S_standing_in, He.glo_ok X G (c.fact 21 (f := .glo "fewest_behind") rfl), F_fewest_behind.kp, F_fewest_behind.bindsN (fun _ _ _ _ _ _ us hl => match us, hl with | [_, _], _ => rfl)⟩
  obtain ⟨fd_sorted_out, F_sorted_out⟩ := c.def_ 24 (d := d_sorted_out) rfl
  have S_sorted_out : Std P w K mg base 2 "sorted_out" ["pile", "goal"] (sp_sorted_out K) := ⟨_, fd_sorted_out, ok_sorted_out F_sorted_out S_standing_in S_counts_ofN g_enumerate, He.glo_ok X G (c.fact 24 (f := .glo "sorted_out") rfl), F_sorted_out.kp, F_sorted_out.bindsN (fun _ _ _ _ _ _ us hl => match us, hl with | [_, _], _ => rfl)⟩
  obtain ⟨fd__law_label, F__law_label⟩ := c.def_ 33 (d := d__law_label) rfl
  have S__law_label : Std P w K mg base 2 "_law_label" ["jar", "style"] (sp__law_label K) := ⟨_, fd__law_label, ok__law_label F__law_label S__law_ladle g_range, He.glo_ok X G (c.fact 33 (f := .glo "_law_label") rfl), F__law_label.kp, F__law_label.bindsN (fun _ _ _ _ _ _ us hl => match us, hl with | [_, _], _ => rfl)⟩
  obtain ⟨fd__law_done, F__law_done⟩ := c.def_ 37 (d := d__law_done) rfl
  have S__law_done : Std P w K mg base 2 "_law_done" ["words", "cells"] (sp__law_done K) := ⟨_, fd__law_done, ok__law_done F__law_done S__law_step g_int g_len, He.glo_ok X G (c.fact 37 (f := .glo "_law_done") rfl), F__law_done.kp, F__law_done.bindsN (fun _ _ _ _ _ _ us hl => match us, hl with | [_, _], _ => rfl)⟩
  obtain ⟨fd_is_constant, F_is_constant⟩ := c.def_ 2 (d := d_is_constant) rfl
  have S_is_constant : Std P w K mg base 3 "is_constant" ["value"] (sp_is_constant K) := ⟨_, fd_is_constant, ok_is_constant F_is_constant S_in_range i_GREATEST, He.glo_ok X G (c.fact 2 (f := .glo "is_constant") rfl), F_is_constant.kp, F_is_constant.bindsN (fun _ _ _ _ _ _ us hl => match us, hl with | [_], _ => rfl)⟩
  obtain ⟨fd_is_instruction, F_is_instruction⟩ := c.def_ 5 (d := d_is_instruction) rfl
  have S_is_instruction : Std P w K mg base 3 "is_instruction" ["word"] (sp_is_instruction K) := ⟨_, fd_is_instruction, ok_is_instruction F_is_instruction S_is_decimal i_MOST_HIGH S_is_constant_word, He.glo_ok X G (c.fact 5 (f := .glo "is_instruction") rfl), F_is_instruction.kp, F_is_instruction.bindsN (fun _ _ _ _ _ _ us hl => match us, hl with | [_], _ => rfl)⟩
  obtain ⟨fd_best_between, F_best_between⟩ := c.def_ 22 (d := d_best_between) rfl
  have S_best_between : Std P w K mg base 3 "best_between" ["pile", "goal", "known"] (sp_best_between K) := ⟨_, fd_best_between, ok_best_between F_best_between g_range g_all g_len S_fewest_behind, He.glo_ok X G (c.fact 22 (f := .glo "best_between") rfl), F_best_between.kp, F_best_between.bindsN (fun _ _ _ _ _ _ us hl => match us, hl with | [_, _, _], _ => rfl)⟩
  obtain ⟨fd__law_piles, F__law_piles⟩ := c.def_ 34 (d := d__law_piles) rfl
  have S__law_piles : Std P w K mg base 3 "_law_piles" ["jar", "most"] (sp__law_piles K) := ⟨_, fd__law_piles, ok__law_piles F__law_piles S__law_ladle S__law_label g_range g_len g_tuple, He.glo_ok X G (c.fact 34 (f := .glo "_law_piles") rfl), F__law_piles.kp, F__law_piles.bindsN (fun _ _ _ _ _ _ us hl => match us, hl with | [_, _], _ => rfl)⟩
  obtain ⟨fd_first_wrong, F_first_wrong⟩ := c.def_ 8 (d := d_first_wrong) rfl
  have S_first_wrong : Std P w K mg base 4 "first_wrong" ["words", "growths"] (sp_first_wrong K) := ⟨_, fd_first_wrong, ok_first_wrong F_first_wrong g_enumerate i_MOST_WORDS g_len S_is_instruction S_measure_of, He.glo_ok X G (c.fact 8 (f := .glo "first_wrong") rfl), F_first_wrong.kp, F_first_wrong.bindsN (fun _ _ _ _ _ _ us hl => match us, hl with | [_, _], _ => rfl)⟩
  obtain ⟨fd_is_pile, F_is_pile⟩ := c.def_ 17 (d := d_is_pile) rfl
  have S_is_pile : Std P w K mg base 4 "is_pile" ["value"] (sp_is_pile K) := ⟨_, fd_is_pile, ok_is_pile F_is_pile i_MOST_LABELS g_isinstance g_tuple g_len g_all S_is_constant S_is_symbol, He.glo_ok X G (c.fact 17 (f := .glo "is_pile") rfl), F_is_pile.kp, F_is_pile.bindsN (fun _ _ _ _ _ _ us hl => match us, hl with | [_], _ => rfl)⟩
  obtain ⟨fd_fewest_between, F_fewest_between⟩ := c.def_ 23 (d := d_fewest_between) rfl
  have S_fewest_between : Std P w K mg base 4 "fewest_between" ["pile", "goal", "known"] (sp_fewest_between K) := ⟨_, fd_fewest_between, ok_fewest_between F_fewest_between S_best_between, He.glo_ok X G (c.fact 23 (f := .glo "fewest_between") rfl), F_fewest_between.kp, F_fewest_between.bindsN (fun _ _ _ _ _ _ us hl => match us, hl with | [_, _, _], _ => rfl)⟩
  obtain ⟨fd_plan_between, F_plan_between⟩ := c.def_ 27 (d := d_plan_between) rfl
  have S_plan_between : Std P w K mg base 4 "plan_between" ["pile", "goal", "known"] (sp_plan_between K) := ⟨_, fd_plan_between, ok_plan_between F_plan_between S_best_between g_len S_cleared S_sorted_out S_topmost S_standing_in, He.glo_ok X G (c.fact 27 (f := .glo "plan_between") rfl), F_plan_between.kp, F_plan_between.bindsN (fun _ _ _ _ _ _ us hl => match us, hl with | [_, _, _], _ => rfl)⟩
  obtain ⟨fd_words_known, F_words_known⟩ := c.def_ 28 (d := d_words_known) rfl
  have S_words_known : Std P w K mg base 4 "words_known" ["goal"] (sp_words_known K) := ⟨_, fd_words_known, ok_words_known F_words_known g_str S_is_constant, He.glo_ok X G (c.fact 28 (f := .glo "words_known") rfl), F_words_known.kp, F_words_known.bindsN (fun _ _ _ _ _ _ us hl => match us, hl with | [_], _ => rfl)⟩
  obtain ⟨fd_i, F_i⟩ := c.def_ 41 (d := d_m__init__) rfl
  have I_Program : StdI P w K mg base 5 (He.ga K "Program") (si_Program___init__ K (He.ga K "Program")) := ⟨_, fd_i, ["self", "text"], He.mkr_ok (c.fact 77 (f := .mkr "Program") rfl), ok_Program___init__ F_i g_isinstance g_str S_words_of S_first_wrong S_nodes_in S_measure_in i_MOST_HIGH g_tuple S_is_plain_in S_length_in S_open_in pa, F_i.bindsN (fun _ _ _ _ _ _ us hl => match us, hl with | [_, _], _ => rfl)⟩
  obtain ⟨fd_require_pile, F_require_pile⟩ := c.def_ 18 (d := d_require_pile) rfl
  have S_require_pile : Std P w K mg base 5 "require_pile" ["value"] (sp_require_pile K) := ⟨_, fd_require_pile, ok_require_pile F_require_pile S_is_pile, He.glo_ok X G (c.fact 18 (f := .glo "require_pile") rfl), F_require_pile.kp, F_require_pile.bindsN (fun _ _ _ _ _ _ us hl => match us, hl with | [_], _ => rfl)⟩
  obtain ⟨fd_fewest, F_fewest⟩ := c.def_ 29 (d := d_fewest) rfl
  have S_fewest : Std P w K mg base 6 "fewest" ["pile", "goal"] (sp_fewest K) := ⟨_, fd_fewest, ok_fewest F_fewest S_require_pile S_fewest_between S_words_known, He.glo_ok X G (c.fact 29 (f := .glo "fewest") rfl), F_fewest.kp, F_fewest.bindsN (fun _ _ _ _ _ _ us hl => match us, hl with | [_, _], _ => rfl)⟩
  obtain ⟨fd_plan, F_plan⟩ := c.def_ 30 (d := d_plan) rfl
  have S_plan : Std P w K mg base 7 "plan" ["pile", "goal"] (sp_plan K (He.ga K "Program")) := ⟨_, fd_plan, ok_plan F_plan S_require_pile S_plan_between S_words_known kc pa gP I_Program, He.glo_ok X G (c.fact 30 (f := .glo "plan") rfl), F_plan.kp, F_plan.bindsN (fun _ _ _ _ _ _ us hl => match us, hl with | [_, _], _ => rfl)⟩
  have R_plan : StdE P w K mg base 7 "plan" ["pile", "goal"] (SpO (sp_plan K (He.ga K "Program")) (spr_plan K (He.ga K "Program") (He.ga K "NotReachable"))) := ⟨_, fd_plan, FnOk.or (ok_plan F_plan S_require_pile S_plan_between S_words_known kc pa gP I_Program) (okr_plan F_plan S_require_pile S_plan_between S_words_known kc pa gP I_Program X0), He.glo_ok X G (c.fact 30 (f := .glo "plan") rfl), F_plan.kp, F_plan.bindsN (fun _ _ _ _ _ _ us hl => match us, hl with | [_, _], _ => rfl)⟩
  obtain ⟨fd__law_found, F__law_found⟩ := c.def_ 38 (d := d__law_found) rfl
  have S__law_found : Std P w K mg base 8 "_law_found" ["pile_here", "goal"] (sp__law_found K (He.ga K "Program")) := ⟨_, fd__law_found, ok__law_found F__law_found g_isinstance g_ValueError R_plan X0, He.glo_ok X G (c.fact 38 (f := .glo "_law_found") rfl), F__law_found.kp, F__law_found.bindsN (fun _ _ _ _ _ _ us hl => match us, hl with | [_, _], _ => rfl)⟩
  obtain ⟨fd__law_right, F__law_right⟩ := c.def_ 39 (d := d__law_right) rfl
  have S__law_right : StdG P w K mg base 9 "_law_right" ["pile_here", "goal"] (sp__law_right K) := ⟨_, fd__law_right, ok__law_right F__law_right g_dict g_isinstance g_str g_repr S__law_fewest S__law_found S_fewest g_len S__law_done g_list g_tuple S_plan kc pa gP P_text P_is_plain P_steps M_len M_eq, He.glo_ok X G (c.fact 39 (f := .glo "_law_right") rfl), F__law_right.kp, F__law_right.bindsN (fun _ _ _ _ _ _ us hl => match us, hl with | [_, _], _ => rfl)⟩
  exact ok_law F g_range g_max S__law_jar g_min S__law_piles g_len g_int S__law_right S_plan kc pa gP P_text P_is_plain P_steps M_len M_eq
end Wx

/-! ### part H11 -/
set_option Elab.async false
set_option linter.all false
set_option maxRecDepth 100000
set_option maxHeartbeats 0
set_option autoImplicit false
namespace Wx
open PySem L2 PyProof.Rows
theorem ints_da {K : PySem.W.Frag} {S : Addr → Prop} {H : Hp} : ∀ ns : List Int, DaL K S H (ns.map V.int) (ns.map PyData.int)
  | [] => .nil
  | n :: ns => .cons (.int n) (ints_da ns)
theorem script_da {K : PySem.W.Frag} {H : Hp} {a : Addr} {ns : List Int} (h : SqL K H a (ns.map V.int)) : Da K (fun _ => False) H (.ref a) (.list (List.map PyData.int ns)) := by
  rcases h with h | h
  · exact .lst (fun z => z) h (ints_da ns)
  · exact .lstK (fun G => .inr h) (ints_da ns)
end Wx
open PySem PySem.W PySem.Calls PyProof.Rows
theorem PySem.Challenge.cw_stackworks_k40_plans_between_piles_holds : PySem.Challenge.rw_stackworks_k40_plans_between_piles.Holds := by
  w_on; o_law
  refine HandSHeadRun.head_any (r := OpenLaw.row PySem.Challenge.rw_stackworks_k40_plans_between_piles) (q := view Wx.RR.prog [66]) (H := Wx.hk) (ob := Wx.ob) (M := 8000) (loose := Wx.loose) (d := HandSHeadRun.topDef Wx.RR.prog 66) (kwd := []) Wx.ob_eq
    (by kernel_rfl) (fun s => by kernel_rfl) Wx.run (by kernel_rfl) (by kernel_rfl) (by kernel_rfl) (by rfl) (by first | assumption | decide +kernel) (by decide +kernel) ⟨rfl, rfl, rfl, rfl, rfl, by decide +kernel⟩ ?hw ?hc
  case hw => w_witness2
  case hc =>
    refine Wx.walk_go (l := PySem.Challenge.rw_stackworks_k40_plans_between_piles) (n := 63) (k := 10) (x := "script") rfl (by decide) (by kernel_rfl) ⟨rfl, by decide, by decide⟩ ?F
    intro w mg fa h Y G hmg0
    obtain ⟨K, KX, c, b⟩ := Y
    have hmg : mg ("law" : PySem.Str) = some (.ref fa) := by
      have e : (HandSHeadRun.topDef Wx.RR.prog 66).name = ("law" : PySem.Str) := by kernel_rfl
      rw [← e]
      exact hmg0
    obtain ⟨fd, hb, hF⟩ := Wx.facts (P := (PySem.Challenge.rw_stackworks_k40_plans_between_piles).prog) (w := w) KX G hmg c b
    exact ⟨K, fd, Wx.sp_law K, KX, hb, fun H a ns hl _ hS => ⟨a, ns, rfl, hl, Wx.script_da hS, fun _ => rfl⟩, hF⟩

