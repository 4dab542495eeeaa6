import PyProof.Rows.All
import Wide.All
import OpenK.AllK
import Wide.FinOn
import PySem.Challenge.RW_stackworks_k27_errors_of_powers
import HandS.ForMost
import HandS.Evl
import HandS.IsInst
import HandS.Deep
import HandS.TupAny
import HandS.Wide
import HandS.Style
import HandS.Property
import HandS.OwnEq
import HandS.Defaults
import HandS.Conv
import HandS.Zip
import Lean
import KE.KStateDown
import HandS.HeadHook1
import HandS.HeadHook2
import HandS.ExcIs
import HandS.Head0
import HandS.Head1
import HandS.Head2
import HandS.HeadEnd
import HandS.Base
import HandS.Call
import HandS.Exc
import HandS.Star
import HandS.NoneIn
import HandS.Dict
import HandS.List
import KE.DataMinMax
import HandS.TryOnly
import HandS.ExcOwn
import HandS.WordsExc
import HandS.ForSpec
import Open.SpecLaws
import KE.OsGo
import KE.KOpsOwn
import HandS.Iter
import HandS.Zip0
import PyProof.Draws
import HandS.More
import HandS.Text
import HandS.DictComp
import PyProof.ReprRoads
set_option hygiene false
local macro_rules | `(tactic| walk_at "W1") => `(tactic| (first
  | ((with_reducible show Wp _ _ _ _); first
  | ((with_reducible apply wp_var); rfl)
  | (with_reducible apply wp_tupA')
  | (with_reducible apply wp_cI)
  | (with_reducible apply wp_cS)
  | (with_reducible apply wp_cN)
  | (with_reducible apply wp_cB)
  | ((with_reducible apply wp_lsx1); rfl)
  | ((with_reducible apply wp_catO); rfl)
  | (with_reducible apply wp_rep; with_reducible apply wn_rep)
  | (with_reducible apply wp_op)
  | (with_reducible apply wp_cb)
  | ((with_reducible apply wp_din); rfl)
  | ((with_reducible apply wp_dnotin); rfl)
  | ((with_reducible apply wp_dget); rfl)
  | (with_reducible apply wp_ed)
  | ((with_reducible apply wp_index); rfl; rfl)
  | (with_reducible apply wp_tup)
  | ((with_reducible apply wp_sl); rfl)
  | (with_reducible apply wp_if)
  | (with_reducible apply wp_andV)
  | (with_reducible apply wp_orV)
  | (with_reducible apply wp_notV)
  | (with_reducible apply wp_chain)
  | ((with_reducible apply wp_scoop); rfl; rfl)
  | ((with_reducible apply wp_cx); rfl)
  | (with_reducible apply wp_atom)
  | (with_reducible apply wp_un)
  | ((with_reducible apply wp_fld); rfl)
  | ((with_reducible apply wp_prop); rfl)
  | ((with_reducible apply wp_make); rfl)
  | ((with_reducible apply wp_own); rfl)
  | (with_reducible apply wp_new; with_reducible apply wn_lst))
  | ((with_reducible show Wa _ _ _ _); first
  | (with_reducible apply wa_cons)
  | (with_reducible apply wa_nil))
  | ((with_reducible show Rw _ _ _ _ _ _); first
  | (with_reducible apply rw_ntNN)
  | (with_reducible apply rw_aI)
  | (with_reducible apply rw_subI)
  | ((with_reducible apply rw_catL2); rfl)
  | ((with_reducible apply rw_catL3); rfl)
  | (with_reducible apply rw_ltI)
  | (with_reducible apply rw_leI)
  | (with_reducible apply rw_gtI)
  | (with_reducible apply rw_geI)
  | ((with_reducible apply rw_ix); rfl)
  | ((with_reducible apply rw_eqI); rfl)
  | ((with_reducible apply rw_neI); rfl)
  | ((with_reducible apply rw_eqSt); rfl; (decide +kernel); (decide +kernel); (decide +kernel))
  | ((with_reducible apply rw_eqSf); rfl; (decide +kernel); (decide +kernel); (decide +kernel))
  | ((with_reducible apply rw_eq); rfl)
  | ((with_reducible apply rw_ne); rfl)
  | ((with_reducible apply rw_in); rfl)
  | ((with_reducible apply rw_ni); rfl)
  | ((with_reducible apply rw_mI); (exact wide_mul (a := 200) (b := 200) (by decide +kernel) (by decide +kernel) (by decide) (by decide) (by decide)))
  | ((with_reducible apply rw_modI); (first | decide | omega))
  | ((with_reducible apply rw_powI); (exact ⟨by decide, by decide, by decide +kernel, by decide⟩))
  | (with_reducible apply rw_neSS))
  | ((with_reducible show Ws _ _ _ _); first
  | (with_reducible apply ws_seq)
  | ((with_reducible refine ws_parP ?_ ?_ ?_ ?_); rotate_left 1; (exact Nat.le_of_ble_eq_true rfl); (exact Nat.le_of_ble_eq_true rfl); (decide))
  | ((with_reducible apply ws_augI); rfl)
  | ((with_reducible apply ws_dput); rfl)
  | ((with_reducible refine ws_set ?_ ?_); rotate_left 1; exact Nat.le_of_ble_eq_true rfl)
  | ((with_reducible refine ws_setO ?_ ?_); rotate_left 1; exact Nat.le_of_ble_eq_true rfl)
  | ((with_reducible refine ws_pair2 ?_ ?_ ?_ ?_); rotate_left 2; (exact Nat.le_of_ble_eq_true rfl); (exact Nat.le_of_ble_eq_true rfl); rfl)
  | (with_reducible apply ws_ret)
  | (with_reducible apply ws_if)
  | ((with_reducible refine ws_par ?_ ?_ ?_); rotate_left 1; (exact Nat.le_of_ble_eq_true rfl); (exact Nat.le_of_ble_eq_true rfl))
  | ((with_reducible refine ws_parO ?_ ?_ ?_ ?_); rotate_left 1; (exact Nat.le_of_ble_eq_true rfl); (exact Nat.le_of_ble_eq_true rfl); (decide))
  | (with_reducible apply ws_next)
  | ((with_reducible apply ws_app); rfl; rfl)
  | (with_reducible apply ws_drop))
  | ((with_reducible show _ ∧ _); first
  | (with_reducible refine And.intro (Nat.le_of_ble_eq_true rfl) ?_)
  | (with_reducible refine And.intro (shp_int _) ?_)
  | (with_reducible refine And.intro (shp_src _) ?_)
  | (with_reducible refine And.intro (shp_srcs _) ?_)
  | (with_reducible refine And.intro (shp_inp _) ?_)
  | (with_reducible refine And.intro (shp_lit _) ?_)
  | (with_reducible refine And.intro shp_nilT ?_)
  | (with_reducible refine And.intro (Eq.refl _) ?_))
  | ((with_reducible show Pys _ _); first
  | (with_reducible apply pys_out)
  | (with_reducible apply pys_cons)
  | (with_reducible apply pys_nil))
  | ((with_reducible show Wt _ _ _ _); first
  | (with_reducible apply wt_b)
  | (with_reducible apply wt_test)
  | (with_reducible apply wt_and)
  | (with_reducible apply wt_or)
  | (with_reducible apply wt_not)
  | ((with_reducible apply wt_tru); rfl))
  | ((with_reducible show Bd _ _); first
  | (with_reducible apply bd_mk))
  | ((with_reducible show Cw _ _ _ _ _); first
  | ((with_reducible refine cw_isXN rfl (by assumption) (by decide) ?_))
  | ((with_reducible refine cw_isXV rfl (by assumption) ?_))
  | ((with_reducible apply cw_len); rfl)
  | (with_reducible apply cw_max2)
  | (with_reducible apply cw_min2)
  | (with_reducible apply cw_int1)
  | ((with_reducible apply cw_tuple); rfl)
  | ((with_reducible apply cw_isiB); rfl; rfl; rfl))
  | ((with_reducible show Wn _ _ _ _); first
  | ((with_reducible apply wn_catO); rfl)
  | (with_reducible apply wn_dnew)
  | (with_reducible apply wn_lst)
  | ((with_reducible apply wn_rev); rfl))
  | ((fail_if_success (with_reducible show ∃ _, _)); first
  | (with_reducible apply key_int)
  | (with_reducible apply tp2_mk)
  | (with_reducible apply lsi_py)
  | (with_reducible apply sq_out)
  | (with_reducible apply pd_out)
  | (with_reducible apply lsi_out)
  | (with_reducible apply one_mk)
  | (with_reducible apply two_mk)
  | (with_reducible apply lend_tup)
  | (with_reducible apply lend_own)
  | (with_reducible apply lend_py)
  | (with_reducible apply ixd_tup)
  | (with_reducible apply ixd_out)
  | (with_reducible apply ixd_own)
  | (with_reducible apply ixd_py)
  | (with_reducible apply pd_py)
  | (with_reducible apply pd_own)
  | (with_reducible apply sqp_t)
  | (with_reducible apply sqp_l)
  | (with_reducible apply wo_no)
  | (with_reducible apply wo_some)
  | (with_reducible apply sld_tup)
  | (with_reducible apply sld_py)
  | (with_reducible apply id1_mk)
  | (with_reducible apply id2_mk)
  | (with_reducible apply bint_b)
  | (with_reducible apply sq_py)
  | (with_reducible apply sq_own)
  | (with_reducible apply uw_neg)
  | (with_reducible apply td_bool)
  | (with_reducible apply ls_own)
  | (with_reducible apply tp_mk)
  | (with_reducible apply py1_mk))))
local macro_rules | `(tactic| walk_at "WK") => `(tactic| repeat (walk_at "W1"))
local macro_rules | `(tactic| walk_at "OM") => `(tactic| (first | omega | ((try dsimp only); omega)))
local macro_rules | `(tactic| walk_at "IF") => `(tactic| (refine ⟨fun hb => ?_, fun hb => ?_⟩))
local macro_rules | `(tactic| walk_at "J1") => `(tactic| (first
  | ((with_reducible show Wp _ _ _ _); first
  | ((with_reducible apply wp_var); rfl)
  | (with_reducible apply wp_tupA')
  | (with_reducible apply wp_cI)
  | (with_reducible apply wp_cS)
  | (with_reducible apply wp_cN)
  | (with_reducible apply wp_cB)
  | ((with_reducible apply wp_lsx1); rfl)
  | ((with_reducible apply wp_catO); rfl)
  | (with_reducible apply wp_rep; with_reducible apply wn_rep)
  | (with_reducible apply wp_op)
  | (with_reducible apply wp_cb)
  | ((with_reducible apply wp_din); rfl)
  | ((with_reducible apply wp_dnotin); rfl)
  | ((with_reducible apply wp_dget); rfl)
  | (with_reducible apply wp_ed)
  | ((with_reducible apply wp_index); rfl; rfl)
  | (with_reducible apply wp_tup)
  | ((with_reducible apply wp_sl); rfl)
  | (with_reducible apply wp_if)
  | (with_reducible apply wp_andV)
  | (with_reducible apply wp_orV)
  | (with_reducible apply wp_notV)
  | (with_reducible apply wp_chain)
  | ((with_reducible apply wp_scoop); rfl; rfl)
  | ((with_reducible apply wp_cx); rfl)
  | (with_reducible apply wp_atom)
  | (with_reducible apply wp_un)
  | ((with_reducible apply wp_fld); rfl)
  | ((with_reducible apply wp_prop); rfl)
  | ((with_reducible apply wp_make); rfl)
  | ((with_reducible apply wp_own); rfl)
  | (with_reducible apply wp_new; with_reducible apply wn_lst))
  | ((with_reducible show Wa _ _ _ _); first
  | (with_reducible apply wa_cons)
  | (with_reducible apply wa_nil))
  | ((with_reducible show Rw _ _ _ _ _ _); first
  | (with_reducible apply rw_ntNN)
  | (with_reducible apply rw_aI)
  | (with_reducible apply rw_subI)
  | ((with_reducible apply rw_catL2); rfl)
  | ((with_reducible apply rw_catL3); rfl)
  | (with_reducible apply rw_ltI)
  | (with_reducible apply rw_leI)
  | (with_reducible apply rw_gtI)
  | (with_reducible apply rw_geI)
  | ((with_reducible apply rw_ix); rfl)
  | ((with_reducible apply rw_eqI); rfl)
  | ((with_reducible apply rw_neI); rfl)
  | ((with_reducible apply rw_eqSt); rfl; (decide +kernel); (decide +kernel); (decide +kernel))
  | ((with_reducible apply rw_eqSf); rfl; (decide +kernel); (decide +kernel); (decide +kernel))
  | ((with_reducible apply rw_eq); rfl)
  | ((with_reducible apply rw_ne); rfl)
  | ((with_reducible apply rw_in); rfl)
  | ((with_reducible apply rw_ni); rfl)
  | ((with_reducible apply rw_mI); (exact wide_mul (a := 200) (b := 200) (by decide +kernel) (by decide +kernel) (by decide) (by decide) (by decide)))
  | ((with_reducible apply rw_modI); (first | decide | omega))
  | ((with_reducible apply rw_powI); (exact ⟨by decide, by decide, by decide +kernel, by decide⟩))
  | (with_reducible apply rw_neSS))
  | ((with_reducible show Ws _ _ _ _); first
  | ((with_reducible refine ws_parP ?_ ?_ ?_ ?_); rotate_left 1; (exact Nat.le_of_ble_eq_true rfl); (exact Nat.le_of_ble_eq_true rfl); (decide))
  | ((with_reducible apply ws_augI); rfl)
  | ((with_reducible apply ws_dput); rfl)
  | ((with_reducible refine ws_set ?_ ?_); rotate_left 1; exact Nat.le_of_ble_eq_true rfl)
  | ((with_reducible refine ws_setO ?_ ?_); rotate_left 1; exact Nat.le_of_ble_eq_true rfl)
  | ((with_reducible refine ws_pair2 ?_ ?_ ?_ ?_); rotate_left 2; (exact Nat.le_of_ble_eq_true rfl); (exact Nat.le_of_ble_eq_true rfl); rfl)
  | (with_reducible apply ws_ret)
  | (with_reducible apply ws_if)
  | ((with_reducible refine ws_par ?_ ?_ ?_); rotate_left 1; (exact Nat.le_of_ble_eq_true rfl); (exact Nat.le_of_ble_eq_true rfl))
  | ((with_reducible refine ws_parO ?_ ?_ ?_ ?_); rotate_left 1; (exact Nat.le_of_ble_eq_true rfl); (exact Nat.le_of_ble_eq_true rfl); (decide))
  | (with_reducible apply ws_next)
  | ((with_reducible apply ws_app); rfl; rfl)
  | (with_reducible apply ws_drop))
  | ((with_reducible show _ ∧ _); first
  | (with_reducible refine And.intro (Nat.le_of_ble_eq_true rfl) ?_)
  | (with_reducible refine And.intro (shp_int _) ?_)
  | (with_reducible refine And.intro (shp_src _) ?_)
  | (with_reducible refine And.intro (shp_srcs _) ?_)
  | (with_reducible refine And.intro (shp_inp _) ?_)
  | (with_reducible refine And.intro (shp_lit _) ?_)
  | (with_reducible refine And.intro shp_nilT ?_)
  | (with_reducible refine And.intro (Eq.refl _) ?_))
  | ((with_reducible show Pys _ _); first
  | (with_reducible apply pys_out)
  | (with_reducible apply pys_cons)
  | (with_reducible apply pys_nil))
  | ((with_reducible show Wt _ _ _ _); first
  | (with_reducible apply wt_b)
  | (with_reducible apply wt_test)
  | (with_reducible apply wt_and)
  | (with_reducible apply wt_or)
  | (with_reducible apply wt_not)
  | ((with_reducible apply wt_tru); rfl))
  | ((with_reducible show Bd _ _); first
  | (with_reducible apply bd_mk))
  | ((with_reducible show Cw _ _ _ _ _); first
  | ((with_reducible refine cw_isXN rfl (by assumption) (by decide) ?_))
  | ((with_reducible refine cw_isXV rfl (by assumption) ?_))
  | ((with_reducible apply cw_len); rfl)
  | (with_reducible apply cw_max2)
  | (with_reducible apply cw_min2)
  | (with_reducible apply cw_int1)
  | ((with_reducible apply cw_tuple); rfl)
  | ((with_reducible apply cw_isiB); rfl; rfl; rfl))
  | ((with_reducible show Wn _ _ _ _); first
  | ((with_reducible apply wn_catO); rfl)
  | (with_reducible apply wn_dnew)
  | (with_reducible apply wn_lst)
  | ((with_reducible apply wn_rev); rfl))
  | ((fail_if_success (with_reducible show ∃ _, _)); first
  | (with_reducible apply key_int)
  | (with_reducible apply tp2_mk)
  | (with_reducible apply lsi_py)
  | (with_reducible apply sq_out)
  | (with_reducible apply pd_out)
  | (with_reducible apply lsi_out)
  | (with_reducible apply one_mk)
  | (with_reducible apply two_mk)
  | (with_reducible apply lend_tup)
  | (with_reducible apply lend_own)
  | (with_reducible apply lend_py)
  | (with_reducible apply ixd_tup)
  | (with_reducible apply ixd_out)
  | (with_reducible apply ixd_own)
  | (with_reducible apply ixd_py)
  | (with_reducible apply pd_py)
  | (with_reducible apply pd_own)
  | (with_reducible apply sqp_t)
  | (with_reducible apply sqp_l)
  | (with_reducible apply wo_no)
  | (with_reducible apply wo_some)
  | (with_reducible apply sld_tup)
  | (with_reducible apply sld_py)
  | (with_reducible apply id1_mk)
  | (with_reducible apply id2_mk)
  | (with_reducible apply bint_b)
  | (with_reducible apply sq_py)
  | (with_reducible apply sq_own)
  | (with_reducible apply uw_neg)
  | (with_reducible apply td_bool)
  | (with_reducible apply ls_own)
  | (with_reducible apply tp_mk)
  | (with_reducible apply py1_mk))))
local macro_rules | `(tactic| walk_at "WJ") => `(tactic| repeat (walk_at "J1"))
set_option hygiene true
/-! ### part V0 -/
set_option Elab.async false
set_option linter.all false
set_option maxRecDepth 100000
set_option maxHeartbeats 1000000
set_option autoImplicit false
/-! The statements of the linked text. -/
namespace Wx
open PySem L2
def top (i : Nat) : Stmt := PySem.Challenge.pw_stackworks_k27_errors_of_powers.main.body.getD i (.Pass ⟨0, 0, 0, 0⟩)
def inCls : Stmt → List Stmt
  | .ClassDef _ _ _ b _ _ _ _ _ _ _ => b
  | _ => []
def meth (i j : Nat) : Stmt := (inCls (top i)).getD j (.Pass ⟨0, 0, 0, 0⟩)
end Wx

/-! ### part E0 -/
set_option Elab.async false
set_option linter.all false
set_option maxRecDepth 100000
set_option maxHeartbeats 1000000
set_option autoImplicit false
/-! What the head looks at. -/
namespace Wx
open PySem L2 PyProof.Rows
abbrev veT : List Value := [.type "ValueError", .type "Exception", .type "BaseException", .type "object"]
def ex0B (K : PySem.W.Frag) (C : Addr) : Bool :=
  PySem.W.excIn K C veT "ValueError.__new__" && (PySem.W.keepIn K (.ref C) && (decide (PySem.W.typeIn K (.ref C) = some (.type "type")) && (decide (PySem.W.exmOne K (.ref C) (.ref C) = some true) && (decide (PySem.W.kitOne K (.ref C) (.type "ValueError") = some true) &&
  (He.eqO (PySem.W.findIn K (.ref C) "__getattribute__") (some (some (.builtin "BaseException.__getattribute__"))) && (He.eqO (PySem.W.findIn K (.ref C) "__getattr__") (some none) && (decide (PySem.W.subIn K (.ref C) (.type "BaseException") = some true) && (PySem.W.hasDictIn K C &&
  (He.eqO (PySem.W.findIn K (.ref C) "__class__") (some (some (.builtin "object.__class__"))) && (He.eqO (PySem.W.specialIn K (.builtin "object.__class__") "__get__") (some (some (.builtin "getset_descriptor.__get__"))) &&
  (decide (PySem.W.takesIn K (.builtin "object.__class__") = some true) && decide (PySem.W.mroIn K C (.type "object") = some true))))))))))))
end Wx

/-! ### part E2 -/
set_option Elab.async false
set_option linter.all false
set_option maxRecDepth 100000
set_option maxHeartbeats 1000000
set_option autoImplicit false
/-! What the head looks at: the error classes. -/
namespace Wx
open PySem L2 PyProof.Rows
def err5 : List Str := ["InvalidEffect", "InvalidTimes", "InvalidDepth", "InvalidSource", "NotBalanced"]
def cn27 : List Str := ["InvalidProgram", "NotPlain", "InvalidEffect", "InvalidStack", "InvalidDepth", "InvalidStep", "InvalidSource", "InvalidTimes", "InvalidIndex", "InvalidChoices", "NotBalanced", "TooHigh", "ShortStack", "InvalidCommand", "InvalidName", "InvalidOperation", "InvalidPile", "InvalidText", "InvalidUnits", "InvalidValue", "InvalidWord", "Lost", "NoSuchStep", "Nothing", "NotReachable", "TooDeep", "TooLarge"]
def errB (K : PySem.W.Frag) (x : Str) : Bool := ex0B K (He.ga K x) && ((cn27.all fun y => decide (PySem.W.kitOne K (.ref (He.ga K x)) (.ref (He.ga K y)) = some (y == x))) && decide (PySem.W.exmOne K (.ref (He.ga K x)) (.ref (He.ga K "StackError")) = some true))
def errsB (K : PySem.W.Frag) : Bool := (err5.all fun x => errB K x) && (decide (PySem.W.kitOne K (.type "dict") (.ref (He.ga K "Effect")) = some false) && decide (PySem.W.kitOne K (.ref (He.ga K "Program")) (.ref (He.ga K "Effect")) = some false))
end Wx

/-! ### part H8 -/
set_option Elab.async false
set_option linter.all false
set_option maxRecDepth 100000
set_option maxHeartbeats 0
set_option autoImplicit false
/-! The head: what stands behind the top. -/
namespace Wx
open PySem L2 PyProof.Rows
structure GetD where
  c : Str
  cn : Str
  name : Str
  st : Stmt
def fnAt (K : PySem.W.Frag) (a : Addr) : He.FnW := match K.lookup a with
  | some ⟨_, _, .func fd, _⟩ => some (fd.name, fd.qualname, fd.params, fd.body, fd.scope, fd.globals, fd.closure, fd.builtins)
  | _ => none
def pad (K : PySem.W.Frag) (C : Addr) (f : Str) : Addr := match PySem.W.findIn K (.ref C) f with
  | some (some (.ref p)) => p
  | _ => 0
def gad (K : PySem.W.Frag) (C : Addr) (f : Str) : Addr := match PySem.W.recIn K (pad K C f) "property" with
  | some (.ref g :: _) => g
  | _ => 0
def dec {p : Prop} [Decidable p] (h : decide p = true) : p := of_decide_eq_true h
def getB (K : PySem.W.Frag) (C : Addr) (d : GetD) : Bool :=
  He.eqO (PySem.W.findIn K (.ref C) d.name) (some (some (.ref (pad K C d.name)))) && (He.eqO (PySem.W.specialIn K (.ref (pad K C d.name)) "__get__") (some (some (.builtin "property.__get__"))) &&
  (decide (PySem.W.takesIn K (.ref (pad K C d.name)) = some true) && ((match PySem.W.recIn K (pad K C d.name) "property" with
    | some (.ref _ :: _) => true
    | _ => false) && (PySem.W.keepIn K (.ref (gad K C d.name)) && (match K.lookup (gad K C d.name) with
      | some ⟨_, _, .func fd, _⟩ => PySem.W.codeIn K fd.code (d.cn ++ d.name) && (He.dflB K fd.defaults [] && He.kwdB K fd.kwdefaults [])
      | _ => false)))))
def getV (d : GetD) : He.FnW := some (d.name, d.cn ++ d.name, defArgs d.st, .stmts (defBody d.st), defScope d.st, mainGlobals, [], builtinsNs)
def d__law_kiln : He.DefD := ⟨("_law_kiln", none), "_law_kiln", "_law_kiln", defArgs (top 84), defBody (top 84), defScope (top 84), [], []⟩
def d__law_shaped : He.DefD := ⟨("_law_shaped", none), "_law_shaped", "_law_shaped", defArgs (top 88), defBody (top 88), defScope (top 88), [], []⟩
def d__law_made : He.DefD := ⟨("_law_made", none), "_law_made", "_law_made", defArgs (top 87), defBody (top 87), defScope (top 87), [], []⟩
def d__law_scoop : He.DefD := ⟨("_law_scoop", none), "_law_scoop", "_law_scoop", defArgs (top 85), defBody (top 85), defScope (top 85), [], []⟩
def d__law_cut : He.DefD := ⟨("_law_cut", none), "_law_cut", "_law_cut", defArgs (top 86), defBody (top 86), defScope (top 86), [], []⟩
def d__law_right : He.DefD := ⟨("_law_right", none), "_law_right", "_law_right", defArgs (top 91), defBody (top 91), defScope (top 91), [], []⟩
def d__law_told : He.DefD := ⟨("_law_told", none), "_law_told", "_law_told", defArgs (top 90), defBody (top 90), defScope (top 90), [], []⟩
def d_cell_after : He.DefD := ⟨("cell_after", none), "cell_after", "cell_after", defArgs (top 77), defBody (top 77), defScope (top 77), [], []⟩
def d_require_effect : He.DefD := ⟨("require_effect", none), "require_effect", "require_effect", defArgs (top 75), defBody (top 75), defScope (top 75), [], []⟩
def d_require_times : He.DefD := ⟨("require_times", none), "require_times", "require_times", defArgs (top 57), defBody (top 57), defScope (top 57), [], []⟩
def d_in_range : He.DefD := ⟨("in_range", none), "in_range", "in_range", defArgs (top 39), defBody (top 39), defScope (top 39), [], []⟩
def d_is_int : He.DefD := ⟨("is_int", none), "is_int", "is_int", defArgs (top 38), defBody (top 38), defScope (top 38), [], []⟩
def d_require_depth : He.DefD := ⟨("require_depth", none), "require_depth", "require_depth", defArgs (top 62), defBody (top 62), defScope (top 62), [], []⟩
def d_far_source : He.DefD := ⟨("far_source", none), "far_source", "far_source", defArgs (top 69), defBody (top 69), defScope (top 69), [], []⟩
def d_first_time : He.DefD := ⟨("first_time", none), "first_time", "first_time", defArgs (top 79), defBody (top 79), defScope (top 79), [], []⟩
def d_require_source : He.DefD := ⟨("require_source", none), "require_source", "require_source", defArgs (top 61), defBody (top 61), defScope (top 61), [], []⟩
def d_is_source : He.DefD := ⟨("is_source", none), "is_source", "is_source", defArgs (top 60), defBody (top 60), defScope (top 60), [], []⟩
def d_is_constant : He.DefD := ⟨("is_constant", none), "is_constant", "is_constant", defArgs (top 40), defBody (top 40), defScope (top 40), [], []⟩
def d_first_in : He.DefD := ⟨("first_in", none), "first_in", "first_in", defArgs (top 78), defBody (top 78), defScope (top 78), [], []⟩
def d_settles : He.DefD := ⟨("settles", none), "settles", "settles", defArgs (top 82), defBody (top 82), defScope (top 82), [], []⟩
def d_tail_and_ring : He.DefD := ⟨("tail_and_ring", none), "tail_and_ring", "tail_and_ring", defArgs (top 81), defBody (top 81), defScope (top 81), [], []⟩
def d_common_divisor : He.DefD := ⟨("common_divisor", none), "common_divisor", "common_divisor", defArgs (top 80), defBody (top 80), defScope (top 80), [], []⟩
def d__law_class : He.DefD := ⟨("_law_class", none), "_law_class", "_law_class", defArgs (top 89), defBody (top 89), defScope (top 89), [], []⟩
def d_Program___init__ : He.DefD := ⟨("Program", some "__init__"), "__init__", "Program.__init__", defArgs (meth 56 0), defBody (meth 56 0), defScope (meth 56 0), [], []⟩
def d_words_of : He.DefD := ⟨("words_of", none), "words_of", "words_of", defArgs (top 45), defBody (top 45), defScope (top 45), [], []⟩
def d_first_wrong : He.DefD := ⟨("first_wrong", none), "first_wrong", "first_wrong", defArgs (top 46), defBody (top 46), defScope (top 46), [], []⟩
def d_is_instruction : He.DefD := ⟨("is_instruction", none), "is_instruction", "is_instruction", defArgs (top 43), defBody (top 43), defScope (top 43), [], []⟩
def d_is_decimal : He.DefD := ⟨("is_decimal", none), "is_decimal", "is_decimal", defArgs (top 41), defBody (top 41), defScope (top 41), [], []⟩
def d_is_constant_word : He.DefD := ⟨("is_constant_word", none), "is_constant_word", "is_constant_word", defArgs (top 42), defBody (top 42), defScope (top 42), [], []⟩
def d_measure_of : He.DefD := ⟨("measure_of", none), "measure_of", "measure_of", defArgs (top 44), defBody (top 44), defScope (top 44), [], []⟩
def d_nodes_in : He.DefD := ⟨("nodes_in", none), "nodes_in", "nodes_in", defArgs (top 48), defBody (top 48), defScope (top 48), [], []⟩
def d_nodes_from : He.DefD := ⟨("nodes_from", none), "nodes_from", "nodes_from", defArgs (top 47), defBody (top 47), defScope (top 47), [], []⟩
def d_measure_in : He.DefD := ⟨("measure_in", none), "measure_in", "measure_in", defArgs (top 51), defBody (top 51), defScope (top 51), [], []⟩
def d_joined_measure : He.DefD := ⟨("joined_measure", none), "joined_measure", "joined_measure", defArgs (top 49), defBody (top 49), defScope (top 49), [], []⟩
def d_repeated_measure : He.DefD := ⟨("repeated_measure", none), "repeated_measure", "repeated_measure", defArgs (top 50), defBody (top 50), defScope (top 50), [], []⟩
def d_is_plain_in : He.DefD := ⟨("is_plain_in", none), "is_plain_in", "is_plain_in", defArgs (top 52), defBody (top 52), defScope (top 52), [], []⟩
def d_length_in : He.DefD := ⟨("length_in", none), "length_in", "length_in", defArgs (top 53), defBody (top 53), defScope (top 53), [], []⟩
def d_open_in : He.DefD := ⟨("open_in", none), "open_in", "open_in", defArgs (top 54), defBody (top 54), defScope (top 54), [], []⟩
def d_Effect___init__ : He.DefD := ⟨("Effect", some "__init__"), "__init__", "Effect.__init__", defArgs (meth 73 0), defBody (meth 73 0), defScope (meth 73 0), [], []⟩
def d_cut_pair : He.DefD := ⟨("cut_pair", none), "cut_pair", "cut_pair", defArgs (top 65), defBody (top 65), defScope (top 65), [], []⟩
def d_law : He.DefD := ⟨("law", none), "law", "law", defArgs (top 92), defBody (top 92), defScope (top 92), [], []⟩
def fn : List He.DefD := [d__law_kiln, d__law_shaped, d__law_made, d__law_scoop, d__law_cut, d__law_right, d__law_told, d_cell_after, d_require_effect, d_require_times, d_in_range, d_is_int, d_require_depth, d_far_source, d_first_time, d_require_source, d_is_source, d_is_constant, d_first_in, d_settles, d_tail_and_ring, d_common_divisor, d__law_class, d_Program___init__, d_words_of, d_first_wrong, d_is_instruction, d_is_decimal, d_is_constant_word, d_measure_of, d_nodes_in, d_nodes_from, d_measure_in, d_joined_measure, d_repeated_measure, d_is_plain_in, d_length_in, d_open_in, d_Effect___init__, d_cut_pair, d_law]
def fa : List He.Fa := [.cls "Effect", .cls "Program", .glo "Effect", .glo "Program", .free "range", .free "max", .glo "_law_kiln", .free "len", .free "min", .glo "_law_shaped", .glo "_law_made", .glo "_law_scoop", .free "int", .free "tuple", .glo "_law_cut", .glo "_law_right", .glo "_law_told", .free "repr", .glo "cell_after", .glo "require_effect", .free "isinstance", .noat "Effect" "kept_taken", .noat "Effect" "kept_left", .glo "require_times", .glo "in_range", .glo "is_int", .free "bool", .int "MOST_TIMES" (10 ^ 30), .glo "require_depth", .glo "far_source", .glo "InvalidEffect", .glo "InvalidTimes", .glo "InvalidDepth", .glo "first_time", .glo "require_source", .glo "is_source", .free "str", .glo "is_constant", .int "GREATEST" (10 ^ 30), .glo "first_in", .glo "InvalidSource", .glo "settles", .glo "tail_and_ring", .glo "common_divisor", .glo "NotBalanced", .glo "_law_class", .free "ValueError", .glo "InvalidProgram", .glo "NotPlain", .glo "InvalidStack", .glo "InvalidStep", .glo "InvalidIndex", .glo "InvalidChoices", .glo "TooHigh", .glo "ShortStack", .glo "InvalidCommand", .glo "InvalidName", .glo "InvalidOperation", .glo "InvalidPile", .glo "InvalidText", .glo "InvalidUnits", .glo "InvalidValue", .glo "InvalidWord", .glo "Lost", .glo "NoSuchStep", .glo "Nothing", .glo "NotReachable", .glo "TooDeep", .glo "TooLarge", .glo "StackError", .mkr "Program", .glo "words_of", .glo "first_wrong", .free "enumerate", .int "MOST_WORDS" 1000, .int "MOST_OPEN" 12, .glo "is_instruction", .glo "is_decimal", .int "MOST_DIGITS" 31, .free "all", .str "DIGITS" "0123456789", .int "MOST_HIGH" 100, .glo "is_constant_word", .glo "measure_of", .glo "nodes_in", .glo "nodes_from", .glo "measure_in", .glo "joined_measure", .glo "repeated_measure", .glo "is_plain_in", .glo "length_in", .glo "open_in", .noat "Program" "own_text", .noat "Program" "own_words", .noat "Program" "own_nodes", .noat "Program" "own_need", .noat "Program" "own_rise", .noat "Program" "own_growth", .noat "Program" "own_plain", .noat "Program" "own_steps", .noat "Program" "own_open", .mkr "Effect", .glo "cut_pair", .glo "law"]
def loose : List Str := [("_wall" : Str), ("StackError" : Str), ("InvalidText" : Str), ("InvalidUnits" : Str), ("TooHigh" : Str), ("TooLarge" : Str), ("TooDeep" : Str), ("ShortStack" : Str), ("Lost" : Str), ("InvalidProgram" : Str), ("NotPlain" : Str), ("InvalidTimes" : Str), ("InvalidStep" : Str), ("InvalidWord" : Str), ("InvalidName" : Str), ("InvalidStack" : Str), ("InvalidChoices" : Str), ("InvalidEffect" : Str), ("InvalidDepth" : Str), ("InvalidSource" : Str), ("NotBalanced" : Str), ("InvalidIndex" : Str), ("InvalidPile" : Str), ("NotReachable" : Str), ("NoSuchStep" : Str), ("InvalidValue" : Str), ("InvalidOperation" : Str), ("Nothing" : Str), ("InvalidCommand" : Str), ("DIGITS" : Str), ("GREATEST" : Str), ("MOST_DIGITS" : Str), ("MOST_WORDS" : Str), ("MOST_OPEN" : Str), ("MOST_TIMES" : Str), ("MOST_HIGH" : Str), ("is_int" : Str), ("in_range" : Str), ("is_constant" : Str), ("is_decimal" : Str), ("is_constant_word" : Str), ("is_instruction" : Str), ("measure_of" : Str), ("words_of" : Str), ("first_wrong" : Str), ("nodes_from" : Str), ("nodes_in" : Str), ("joined_measure" : Str), ("repeated_measure" : Str), ("measure_in" : Str), ("is_plain_in" : Str), ("length_in" : Str), ("open_in" : Str), ("joined_text" : Str), ("Program" : Str), ("require_times" : Str), ("NOTHING" : Str), ("is_source" : Str), ("require_source" : Str), ("require_depth" : Str), ("is_stack" : Str), ("require_stack" : Str), ("cut_pair" : Str), ("source_in" : Str), ("through" : Str), ("joined_pair" : Str), ("far_source" : Str), ("power_sizes" : Str), ("power_pair" : Str), ("after_pair" : Str), ("Effect" : Str), ("effect_from" : Str), ("require_effect" : Str), ("cell_after" : Str), ("first_in" : Str), ("first_time" : Str), ("common_divisor" : Str), ("tail_and_ring" : Str), ("settles" : Str), ("_law_kiln" : Str), ("_law_scoop" : Str), ("_law_cut" : Str), ("_law_made" : Str), ("_law_shaped" : Str), ("_law_class" : Str), ("_law_told" : Str), ("_law_right" : Str)]
def gs : List GetD := [⟨"Effect", "Effect.", "taken", (meth 73 1)⟩, ⟨"Effect", "Effect.", "left", (meth 73 2)⟩, ⟨"Effect", "Effect.", "growth", (meth 73 3)⟩]
def six : List String := ["NoneType", "bool", "int", "str", "list", "tuple"]
def clsB (K : PySem.W.Frag) (C : Addr) : Bool :=
  He.eqO (PySem.W.findIn K (.ref C) "__class__") (some (some (.builtin "object.__class__"))) && (He.eqO (PySem.W.specialIn K (.builtin "object.__class__") "__get__") (some (some (.builtin "getset_descriptor.__get__"))) &&
  (decide (PySem.W.takesIn K (.builtin "object.__class__") = some true) && (decide (PySem.W.mroIn K C (.type "object") = some true) && (decide (PySem.W.kitOne K (.ref C) (.ref C) = some true) &&
  ((six.all fun s => decide (PySem.W.kitOne K (.type s) (.ref C) = some false) && PySem.W.notFirst K C (.type s)) && (He.eqO (PySem.W.findIn K (.ref C) "__ne__") (some (some (.builtin "object.__ne__"))) && PySem.W.selfFirst K C))))))
def clsE (K : PySem.W.Frag) : Bool := clsB K (He.ga K "Effect") && (clsB K (He.ga K "Program") && ((gs.all fun d => getB K (He.ga K d.c) d) && (errsB K)))
def valG : List He.FnW := gs.foldr (fun d r => getV d :: r) []
theorem valG_eq : valG = gs.map getV := rfl
structure More (K : PySem.W.Frag) : Prop where
  b : clsE K = true
  v : gs.map (fun d => fnAt K (gad K (He.ga K d.c) d.name)) = valG
abbrev Al : Type := Bool × He.AlD × List He.FnW
def obsX (K : PySem.W.Frag) : Al := (clsE K, He.obsD fa fn K, gs.map fun d => fnAt K (gad K (He.ga K d.c) d.name))
def valX : Al := (true, He.valD fn, valG)
theorem says_of {K : PySem.W.Frag} (e : obsX K = valX) : He.SaysD fa fn K ∧ More K := ⟨congrArg (fun z : Al => z.2.1) e, congrArg (fun z : Al => z.1) e, congrArg (fun z : Al => z.2.2) e⟩
/-- what the names reach in n steps -/
def fro (g : Addr → Option Obj) : Nat → List Addr → List Addr
  | 0, l => l
  | n + 1, l => l ++ fro g n (l.flatMap fun a => match g a with
    | some o => He.refsD o
    | none => [])
def obG (n : Nat) (g : Addr → Option Obj) : Al := obsX (He.frG g (fro g n [mainGlobals]))
def hk : PySem.W.Hook where
  α := Al
  obs := fun s => obG 5 s.heap.get?
  val := fun _ => valX
  says := fun _ h => ∃ K : PySem.W.Frag, K.In h ∧ He.SaysD fa fn K ∧ More K
  of := fun _ _ e => ⟨_, He.frG_in, says_of e⟩
  keeps := fun _ _ _ ⟨K, h1, h2⟩ k => ⟨K, PySem.W.Frag.In.keeps h1 k, h2⟩
abbrev RR : PySem.W.OpenRow := PySem.W.OpenLaw.row PySem.Challenge.rw_stackworks_k27_errors_of_powers
def ob (s : PySem.W.SharedT) : Al := obG 5 (HandSHeadRun.getT s)
theorem ob_eq (s : PySem.W.SharedT) : ob s = hk.obs s.abs := by
  have e : HandSHeadRun.getT s = s.abs.heap.get? := funext (HandSHeadRun.getT_eq s)
  unfold ob
  rw [e]
  rfl
theorem run (w : World) : HandSHeadRun.RunEq RR (PySem.W.view RR.prog [92]) hk ob 20000 loose w := by
  intro os
  kernel_rfl
end Wx

/-! ### part Ka -/
set_option Elab.async false
set_option linter.all false
set_option maxRecDepth 100000
set_option maxHeartbeats 1000000
set_option autoImplicit false
/-! A caught exception that is kept behind its except suite: it is laid at its address as something of which the class, the dict and the make are known. -/
namespace L2
open PySem PySem.Spec PyProof.Rows
/-- an exception of the class cls with the dict d -/
def excP (a : Addr) (cls : Value) (d : Option Addr) (h : Heap) : Prop := ∃ oe vs, h.get? a = some oe ∧ Zc cls d oe ∧ oe.data = .fields vs
abbrev exc (a : Addr) (cls : Value) (d : Option Addr) : HO := .ext (excP a cls d)
section
variable {X : Cx} {pins : List (Addr × Obj)} {σ : St} {H : Hp} {s sI s' : Shared} {B : Heap} {a : Addr} {cls : Value} {d : Option Addr}
theorem exc_ok {P : Program} {w : World} {h : Heap} (x : excP a cls d h) : ObjOk P w H h a (exc a cls d) := by
  obtain ⟨oe, vs, e, z, f⟩ := id x
  refine ⟨x, ⟨oe, e⟩, fun h1 h2 y k => ?_⟩
  obtain ⟨oe, vs, e, z, f⟩ := y
  exact ⟨oe, vs, k _ e, z, f⟩
theorem HOk.more {P : Program} {w : World} {h : Heap} {o : HO} (x : HOk P w H h) (na : H a = none) (new : ObjOk P w (upd H a o) h a o) : HOk P w (upd H a o) h := fun b u e => by
  by_cases hb : b = a
  · subst hb; rw [upd_same] at e; cases e; exact new
  · rw [upd_ne hb] at e
    exact (x b u e).stay (fun c v _ q => q) (fun c q => by rw [upd_ne (ne_of_none q na)]; exact q) fun c xs q => by rw [upd_ne (ne_of_none q na)]; exact q
/-- the caught exception is laid: it was not there before it was raised -/
theorem Inv.laidExc (I : Inv X pins σ H sI) (nb : ∀ b o, sI.heap.get? b = some o → b ∉ frs X.stack → B.get? b = some o) (st : B.StaysIn s'.heap) (up : sI.heap.UpToSlots s'.heap) (os : s'.os = sI.os) (ag : AllBare s'.gens)
    (na : H a = none) (nl : sI.heap.get? a = none) (x : excP a cls d s'.heap) : Inv X pins σ (upd H a (exc a cls d)) s' := by
  have nf : ∀ b ∈ frs X.stack, ∀ o, sI.heap.get? b = some o → ∃ sl, s'.heap.get? b = some { o with slots := sl } := fun b hb o e => by
    obtain ⟨_, o', e', hd⟩ := I.stack.mem hb
    rw [e] at e'; cases e'
    exact up b o e hd
  have ne : ∀ {b : Addr} {o : Obj}, sI.heap.get? b = some o → b ≠ a := fun {b o} e z => by
    subst z
    rw [nl] at e; cases e
  have J := I.call (ch := []) (h' := s'.heap) (g' := s'.gens) (t' := s'.toks) (d' := s'.drawn) (H' := upd H a (exc a cls d))
    ⟨fun b o e _ hb _ => st b o (nb b o e hb), fun b o e _ hb _ => nf b hb o e, fun b o e n _ => by rw [upd_ne (ne e)]; exact n, fun b o e _ => by
      by_cases hb : b ∈ frs X.stack
      · obtain ⟨sl, q⟩ := nf b hb o e
        exact ⟨_, q⟩
      · exact ⟨o, st b o (nb b o e hb)⟩, fun b xs e => by rw [upd_ne (ne_of_none e na)]; exact e, fun b o u e => by rw [upd_ne (ne_of_none e na)]; exact e, fun b ps e => ⟨#[], by rw [upd_ne (ne_of_none e na), e]; simp⟩⟩
    (HOk.more ((I.inGround nb).kept st) na (exc_ok x)) ag (fun _ z => nomatch z)
  obtain ⟨a1, a2, a3, a4, a5⟩ := s'
  have e5 : a5 = sI.os := os
  subst e5
  exact J
theorem Inv.suiteK (I : Inv X pins σ H s) (a : Addr) : Inv (X.suite a (X.pn ++ pins)) [] σ H s :=
  ⟨I.ok.suite _ _, I.os, I.bare, I.base, I.loc, I.cell, I.free, I.freeC, fun p hp => I.pin p (by rw [List.append_nil] at hp; exact hp), I.hok, I.len⟩
theorem Inv.unsuiteK {pn' : List (Addr × Obj)} (I : Inv (X.suite a (X.pn ++ pins)) pn' σ H s) (ok : X.Ok) : Inv X pins σ H s :=
  ⟨ok, I.os, I.bare, I.base, I.loc, I.cell, I.free, I.freeC, fun p hp => I.pin p (List.mem_append_left _ hp), I.hok, I.len⟩
end
/-- what the clause 'except x as n' wishes of an exception of the body, when the suite may keep it: slot i is n's -/
def wKeep (K : PySem.W.Frag) (c : Value) (i : Nat) (ts : TS) (Wout : WX) (D : Ends) : WX := fun cls d σ H =>
  ∃ b, PySem.W.exmOne K cls c = some b ∧ (b = true → ∀ a, H a = none → ts { nx := fun σ' H' => D.nx (σ'.set i none) H', rt := D.rt, bk := fun σ' H' => D.bk (σ'.set i none) H', ct := fun σ' H' => D.ct (σ'.set i none) H' } (σ.set i (some (.ref a))) (upd H a (exc a cls d))) ∧
    (b = false → Wout cls d σ H)
section
variable {X : Cx} {x n : Str} {c : Value} {i : Nat} {body suite : List Stmt} {b₀ : Stmt} {np pos pos' : Pos} {tb : WX → TS} {ts : TS} {Wout : WX}
theorem ps_try_keep (hs : X.stack = X.env :: X.outer) (hf : X.env.frame = some X.env.locals) (hN : X.N.Nodup) (hi : X.N[i]? = some n) (hln : X.env.kindOf n = some .local) (hc : Names X x c) (tk : Takes X Wout)
    (hb : ∀ (W : WX) (pn : List (Addr × Obj)) (xe : Value → Shared → Prop), Takes (X.tr pn xe) W → PassesOwn (model X.prog X.w) X.A X.env xe → PSs (X.tr pn xe) body (tb W))
    (hsu : ∀ (a : Addr) (pn : List (Addr × Obj)), PSs (X.suite a pn) (b₀ :: suite) ts) :
    PS X (.Try body [.ExceptHandler (some (.Name x np)) (some n) (b₀ :: suite) pos'] [] [] pos) (fun D σ H => tb (wKeep X.K c i ts Wout D) D σ H) := by
  refine ⟨fun pins s σ H D I h => wpAny_Try_except ?_⟩
  have ok := I.ok
  have hfr : X.A.frames = some (X.env :: X.outer) := by rw [ok.frames, hs]
  have TK : Takes (X.tr (X.pn ++ pins) (fun e s₁ => wpAny (model X.prog X.w) X.A (noteFrame e X.env) (fun _ s₂ => wpAny (model X.prog X.w) X.A (setFlight e none) (fun _ s₃ =>
    wpAny (model X.prog X.w) X.A (handleBy e X.env [.ExceptHandler (some (.Name x np)) (some n) (b₀ :: suite) pos']) (SP X pins D) X.xe s₃) X.xe s₂) X.xe s₁)) (wKeep X.K c i ts Wout D) := fun u s' xx => by
    obtain ⟨a, B, sI, pins', σ', H', cls, d, rfl, J', nb, up, sky, na, os, ag, b, hb1, hyes, hno⟩ := xx
    have J : Inv X pins σ' H' sI := J'.ofTry ok
    rw [show (X.tr (X.pn ++ pins) _).stack = X.env :: X.outer from hs] at sky
    show wpAny (model X.prog X.w) X.A (noteFrame (.ref a) X.env) _ _ _
    refine Sky.land Zc.steady hfr hf sky fun h3 fl3 up3 => ?_
    obtain ⟨oe3, vs3, he3, hz3, hd3⟩ := fl3.there
    have notF : a ∉ frs (X.env :: X.outer) := fun hm => by
      obtain ⟨_, o', e', hnf⟩ := fl3.2.2.1.mem hm
      rw [he3] at e'; cases e'
      exact hnf _ hd3
    have nl : sI.heap.get? a = none := by
      cases q : sI.heap.get? a with
      | none => rfl
      | some o =>
        have z := nb a o q (by rw [show frs (X.tr (X.pn ++ pins) _).stack = frs (X.env :: X.outer) from congrArg frs hs]; exact notF)
        rw [fl3.2.1] at z; cases z
    have nb' : ∀ b o, sI.heap.get? b = some o → b ∉ frs X.stack → B.get? b = some o := nb
    have J3 : Inv X pins σ' H' { s' with heap := h3 } := J.landed nb' fl3.1 (up.trans up3) os ag
    have T3 := (J3.toTry (X := X) (fun _ _ => False))
    have LT : PySem.W.Looks (model X.prog X.w) h3 (typeOf (.ref a)) cls := fun A Q E s k q => wpAny_typeOf_ref (k _ _ he3) (by rw [hz3.1]; exact q)
    have LM := PySem.W.exm_one (M := model X.prog X.w) (J3.kIn) LT hb1
    refine wpAny_handleBy_cons (codeAny_handlers_test ?_) (by intro q; cases q)
    have S3 := J3.suiteK a
    have test : ∀ {Q : Value → Shared → Prop} {E : Value → Shared → Prop}, Q c { s' with heap := h3 } → wpAny (model X.prog X.w) (X.A.mark (some (.ref a))) (eval (.Name x np) X.env) Q E { s' with heap := h3 } := fun {Q E} q => by
      obtain ⟨hg, hdbg, hm | ⟨hm, hv, hnn⟩⟩ := hc
      · exact ld_glob (X := X.suite a (X.pn ++ pins)) S3 hg hm q hdbg
      · exact ld_blt (X := X.suite a (X.pn ++ pins)) S3 hg hm hv q hnn hdbg
    refine test (LM.here ?_)
    cases b with
    | true =>
      refine codeAny_handlers_suite_as ?_
      refine HandSPX.lands_againZ fl3 fun h4 fl4 up4 => ?_
      obtain ⟨oe4, vs4, he4, hz4, hd4⟩ := fl4.there
      have J4 : Inv X pins σ' (upd H' a (exc a cls d)) { s' with heap := h4 } := J.laidExc nb' fl4.1 ((up.trans up3).trans up4) os ag na nl ⟨oe4, vs4, he4, hz4, hd4⟩
      refine store_ok (X := X.suite a (X.pn ++ pins)) (v := .ref a) (J4.suiteK a) hN hi (.inl hln) rfl (fun s5 S5 => ?_) (.inr hln)
      refine wpAny_mono ((hsu a (X.pn ++ pins)).run [] s5 _ _ _ S5 (hyes rfl a na)) (fun f s6 hsp => ?_) (fun _ _ z => False.elim z)
      have fin : ∀ {σ6 : St} {H6 : Hp} {Q : Shared → Prop}, Inv (X.suite a (X.pn ++ pins)) [] σ6 H6 s6 → (∀ s7, Inv X pins (σ6.set i none) H6 s7 → Q s7) →
          wpAny (model X.prog X.w) X.A (do bindName X.env n .none; unbindBehindTheSuite X.env n pos') (fun _ s7 => Q s7) X.xe s6 := fun {σ6 H6 Q} S6 hq => gone_ok (S6.unsuiteK ok) hN hi hln hq
      cases f with
      | next => obtain ⟨σ6, H6, S6, q6⟩ := hsp; exact fin S6 fun s7 J7 => ⟨_, _, J7, q6⟩
      | brk => obtain ⟨σ6, H6, S6, q6⟩ := hsp; exact fin S6 fun s7 J7 => ⟨_, _, J7, q6⟩
      | cont => obtain ⟨σ6, H6, S6, q6⟩ := hsp; exact fin S6 fun s7 J7 => ⟨_, _, J7, q6⟩
      | ret u => obtain ⟨v6, σ6, H6, S6, r6, q6⟩ := hsp; exact fin S6 fun s7 J7 => ⟨_, _, _, J7, r6, q6⟩
    | false =>
      show wpAny _ X.A (handleBy (.ref a) X.env []) _ _ _
      refine wpAny_handleBy_nil ?_
      obtain ⟨k1, k2, k3, oe, vs, T, oT, ts', he, hz, hd, h1, hr⟩ := id fl3
      unfold PySem.passOn
      refine wpAny_bind (wpAny_field he hd h1 ?_)
      rw [if_neg (show ¬ ((Value.ref T == Value.none) = true) from by simp)]
      have fin : wpAny (model X.prog X.w) X.A (setFlight (.ref a) X.env.frame) (fun _ s4 => wpAny (model X.prog X.w) X.A (throw (.ref a) : Sem Flow) (SP X pins D) X.xe s4) X.xe { s' with heap := h3 } := by
        rw [hf]
        refine HandSPX.setFlight_upZ fl3 fun h4 hh4 up4 => wpAny_throw (tk _ _ ?_)
        exact ⟨a, B, sI, pins, σ', H', cls, d, rfl, J, nb', (up.trans up3).trans up4, .inr (.inr (by rw [hs]; exact hh4)), na, os, ag, hno rfl⟩
      first
        | exact wpAny_bind (wpAny_pure (wpAny_bind fin))
        | exact wpAny_bind fin
  refine wpAny_mono ((hb _ _ _ TK PassesOwn.looking).run [] s σ H D (I.toTry _) h) (fun f s1 hsp => ?_) (fun e s1 he => he)
  cases f with
  | next =>
    obtain ⟨σ', H', J', q⟩ := hsp
    exact wpAny_execs_nil ⟨σ', H', J'.ofTry ok, q⟩
  | brk => obtain ⟨σ', H', J', q⟩ := hsp; exact ⟨σ', H', J'.ofTry ok, q⟩
  | cont => obtain ⟨σ', H', J', q⟩ := hsp; exact ⟨σ', H', J'.ofTry ok, q⟩
  | ret u => obtain ⟨v, σ', H', J', r, q⟩ := hsp; exact ⟨v, σ', H', J'.ofTry ok, r, q⟩
end
end L2

/-! ### part Wx -/
set_option Elab.async false
set_option linter.all false
set_option maxRecDepth 100000
set_option maxHeartbeats 1000000
set_option autoImplicit false
/-! A calculus of data over HandS: what an expression is worth (Wp), a test (Wt), arguments (Wa), a statement (Ws), told by data alone; the heap is carried once, here. -/
namespace Wx
open PySem L2

/-! ## data at an address, apart from a set of places that move -/
mutual
inductive Da (K : PySem.W.Frag) (S : Addr → Prop) (H : Hp) : V → PyData → Prop
  | non : Da K S H .non .none
  | bl (b : Bool) : Da K S H (.bl b) (.bool b)
  | int (i : Int) : Da K S H (.int i) (.int i)
  | str (x : Str) : Da K S H (.str x) (.str x)
  | ed {a : Addr} : ¬ S a → H a = some (.dK []) → Da K S H (.ref a) (.dict [])
  | lst {a : Addr} {xs : List V} {ds : List PyData} : ¬ S a → Rd H a (.lst xs) → DaL K S H xs ds → Da K S H (.ref a) (.list ds)
  | tup {a : Addr} {xs : List V} {ds : List PyData} : ¬ S a → Rd H a (.tup xs) → DaL K S H xs ds → Da K S H (.ref a) (.tuple ds)
  | lstK {a : Addr} {xs : List V} {ds : List PyData} : (∀ G : Hp, SqL K G a xs) → DaL K S H xs ds → Da K S H (.ref a) (.list ds)
  | tupK {a : Addr} {xs : List V} {ds : List PyData} : (∀ G : Hp, SqT K G a xs) → DaL K S H xs ds → Da K S H (.ref a) (.tuple ds)
inductive DaL (K : PySem.W.Frag) (S : Addr → Prop) (H : Hp) : List V → List PyData → Prop
  | nil : DaL K S H [] []
  | cons {v : V} {vs : List V} {d : PyData} {ds : List PyData} : Da K S H v d → DaL K S H vs ds → DaL K S H (v :: vs) (d :: ds)
end

section
variable {K : PySem.W.Frag} {S T : Addr → Prop} {H H' : Hp} {v : V} {d : PyData} {vs : List V} {ds : List PyData}
/-- what is read stays, if it is not at a place that moves -/
def Kept (S : Addr → Prop) (H H' : Hp) : Prop := ∀ a o, ¬ S a → H a = some o → H' a = some o
theorem Kept.refl : Kept S H H := fun _ _ _ h => h
theorem Kept.trans {H1 H2 : Hp} (a : Kept S H H1) (b : Kept S H1 H2) : Kept S H H2 := fun x o n h => b x o n (a x o n h)
theorem Kept.rd (k : Kept S H H') {a : Addr} {u : HO} (n : ¬ S a) (r : Rd H a u) : Rd H' a u := by
  rcases r with r | ⟨o, r⟩
  · exact .inl (k a _ n r)
  · exact .inr ⟨o, k a _ n r⟩
mutual
theorem Da.keep (k : Kept S H H') : ∀ {v : V} {d : PyData}, Da K S H v d → Da K S H' v d
  | _, _, .non => .non
  | _, _, .bl b => .bl b
  | _, _, .int i => .int i
  | _, _, .str x => .str x
  | _, _, .ed n r => .ed n (k _ _ n r)
  | _, _, .lst n r t => .lst n (k.rd n r) (DaL.keep k t)
  | _, _, .tup n r t => .tup n (k.rd n r) (DaL.keep k t)
  | _, _, .lstK r t => .lstK r (DaL.keep k t)
  | _, _, .tupK r t => .tupK r (DaL.keep k t)
theorem DaL.keep (k : Kept S H H') : ∀ {vs : List V} {ds : List PyData}, DaL K S H vs ds → DaL K S H' vs ds
  | _, _, .nil => .nil
  | _, _, .cons h t => .cons (Da.keep k h) (DaL.keep k t)
end
mutual
theorem Da.less (w : ∀ a, T a → S a) : ∀ {v : V} {d : PyData}, Da K S H v d → Da K T H v d
  | _, _, .non => .non
  | _, _, .bl b => .bl b
  | _, _, .int i => .int i
  | _, _, .str x => .str x
  | _, _, .ed n r => .ed (fun z => n (w _ z)) r
  | _, _, .lst n r t => .lst (fun z => n (w _ z)) r (DaL.less w t)
  | _, _, .tup n r t => .tup (fun z => n (w _ z)) r (DaL.less w t)
  | _, _, .lstK r t => .lstK r (DaL.less w t)
  | _, _, .tupK r t => .tupK r (DaL.less w t)
theorem DaL.less (w : ∀ a, T a → S a) : ∀ {vs : List V} {ds : List PyData}, DaL K S H vs ds → DaL K T H vs ds
  | _, _, .nil => .nil
  | _, _, .cons h t => .cons (Da.less w h) (DaL.less w t)
end
theorem DaL.len : ∀ {vs : List V} {ds : List PyData}, DaL K S H vs ds → vs.length = ds.length
  | _, _, .nil => rfl
  | _, _, .cons _ t => by simp only [List.length_cons]; rw [DaL.len t]
theorem DaL.get : ∀ {vs : List V} {ds : List PyData} {i : Nat} {d : PyData}, DaL K S H vs ds → ds[i]? = some d → ∃ v, vs[i]? = some v ∧ Da K S H v d
  | _, _, i, _, .nil, h => by simp at h
  | _, _, 0, _, .cons h _, e => by simp at e; subst e; exact ⟨_, rfl, h⟩
  | _, _, i + 1, d, .cons _ t, e => by
    obtain ⟨v, h1, h2⟩ := DaL.get (i := i) (d := d) t (by simpa using e)
    exact ⟨v, by simpa using h1, h2⟩
theorem DaL.got : ∀ {vs : List V} {ds : List PyData} {i : Nat} {v : V}, DaL K S H vs ds → vs[i]? = some v → ∃ d, ds[i]? = some d ∧ Da K S H v d
  | _, _, i, _, .nil, h => by simp at h
  | _, _, 0, _, .cons h _, e => by simp at e; subst e; exact ⟨_, rfl, h⟩
  | _, _, i + 1, v, .cons _ t, e => by
    obtain ⟨d, h1, h2⟩ := DaL.got (i := i) (v := v) t (by simpa using e)
    exact ⟨d, by simpa using h1, h2⟩
theorem DaL.append : ∀ {vs ws : List V} {ds es : List PyData}, DaL K S H vs ds → DaL K S H ws es → DaL K S H (vs ++ ws) (ds ++ es)
  | _, _, _, _, .nil, h => h
  | _, _, _, _, .cons h t, u => .cons h (DaL.append t u)
theorem DaL.take : ∀ {vs : List V} {ds : List PyData} (n : Nat), DaL K S H vs ds → DaL K S H (vs.take n) (ds.take n)
  | _, _, 0, _ => .nil
  | _, _, _ + 1, .nil => .nil
  | _, _, n + 1, .cons h t => .cons h (DaL.take n t)
theorem DaL.drop : ∀ {vs : List V} {ds : List PyData} (n : Nat), DaL K S H vs ds → DaL K S H (vs.drop n) (ds.drop n)
  | _, _, 0, h => h
  | _, _, _ + 1, .nil => .nil
  | _, _, n + 1, .cons _ t => DaL.drop n t
mutual
theorem Da.dp : ∀ {v : V} {d : PyData}, Da K S H v d → d.hasDict = false → Dp K H v d
  | _, _, .non, _ => .non
  | _, _, .bl b, _ => .bl b
  | _, _, .int i, _ => .int i
  | _, _, .str x, _ => .str x
  | _, _, .ed _ _, h => by simp [PyData.hasDict] at h
  | _, _, .lst _ r t, h => .lst (.inl r) (DaL.dp t (by simpa [PyData.hasDict] using h))
  | _, _, .tup _ r t, h => .tup (.inl r) (DaL.dp t (by simpa [PyData.hasDict] using h))
  | _, _, .lstK r t, h => .lst (r H) (DaL.dp t (by simpa [PyData.hasDict] using h))
  | _, _, .tupK r t, h => .tup (r H) (DaL.dp t (by simpa [PyData.hasDict] using h))
theorem DaL.dp : ∀ {vs : List V} {ds : List PyData}, DaL K S H vs ds → PyData.hasDictAll ds = false → DpAll K H vs ds
  | _, _, .nil, _ => .nil
  | _, _, .cons h t, e => by
    rw [PyData.hasDictAll, Bool.or_eq_false_iff] at e
    exact .cons (Da.dp h e.1) (DaL.dp t e.2)
end
theorem Da.int_eq {i : Int} (h : Da K S H v (.int i)) : v = .int i := by cases h; rfl
theorem Da.bl_eq {b : Bool} (h : Da K S H v (.bool b)) : v = .bl b := by cases h; rfl
theorem Da.str_eq {x : Str} (h : Da K S H v (.str x)) : v = .str x := by cases h; rfl
theorem Da.non_eq (h : Da K S H v .none) : v = .non := by cases h; rfl
theorem Da.list_at (h : Da K S H v (.list ds)) : ∃ a xs, v = .ref a ∧ SqL K H a xs ∧ DaL K S H xs ds := by
  cases h with
  | lst n r t => exact ⟨_, _, rfl, .inl r, t⟩
  | lstK r t => exact ⟨_, _, rfl, r H, t⟩
theorem Da.tuple_at (h : Da K S H v (.tuple ds)) : ∃ a xs, v = .ref a ∧ SqT K H a xs ∧ DaL K S H xs ds := by
  cases h with
  | tup n r t => exact ⟨_, _, rfl, .inl r, t⟩
  | tupK r t => exact ⟨_, _, rfl, r H, t⟩
end

/-! ## what a name may hold -/
/-- what one holds alone, and may change -/
inductive Ow where
  | lst (ds : List PyData)
  | dct (ds : List (Key × PyData))
  | ins (C : Addr) (fs : List (Str × PyData))
  | lsi (C : Addr) (gs : List (List (Str × PyData)))
inductive D where
  | py (p : PyData)
  | mine (w : Ow)
  | dct (ds : List (Key × PyData))
  | dcl (ds : List (Key × PyData))
  | brw (ds : List PyData)
  | ins (C : Addr) (fs : List (Str × PyData))
  | atom (v : V)
  | kln
  | lsx
  | obj (φ : Addr → HO → Prop)

def D.nm : D → Bool
  | .mine _ => false
  | _ => true
/-- K: the written part; k: where the draws' list stands; S0: places of the callers that are not to be shared -/
structure Cy where
  K : PySem.W.Frag
  k : Option Addr
  S0 : Addr → Prop
  hk : ∀ a, k = some a → S0 a

def KlnAt (n : Nat) (o : Option HO) : Prop := ∃ a b m : Int, o = some (.lst [.int a, .int b, .int m]) ∧ 0 ≤ a ∧ 0 ≤ b ∧ b < 2 ^ 300 ∧ 0 ≤ m ∧ m ≤ (n : Int)
structure Good (c : Cy) (n : Nat) (H : Hp) : Prop where
  al : ∀ a, c.S0 a → H a ≠ none
  kl : ∀ a, c.k = some a → KlnAt n (H a)
/-- all but the draws' list stays -/
def Ek (c : Cy) (H H' : Hp) : Prop := Kept (fun a => c.k = some a) H H'

def FsR (K : PySem.W.Frag) (S : Addr → Prop) (H : Hp) : List (Str × V) → List (Str × PyData) → Prop
  | [], [] => True
  | (x, v) :: r, (y, d) :: s => x = y ∧ Da K S H v d ∧ FsR K S H r s
  | _, _ => False
def KvR (K : PySem.W.Frag) (S : Addr → Prop) (H : Hp) : List (Key × V) → List (Key × PyData) → Prop
  | [], [] => True
  | (x, v) :: r, (y, d) :: s => x = y ∧ Da K S H v d ∧ KvR K S H r s
  | _, _ => False
def InsL (K : PySem.W.Frag) (S : Addr → Prop) (H : Hp) (C : Addr) : List V → List (List (Str × PyData)) → Prop
  | [], [] => True
  | v :: r, g :: s => (∃ b dx vs, v = .ref b ∧ ¬ S b ∧ H b = some (.ins C dx vs) ∧ FsR K S H vs g) ∧ InsL K S H C r s
  | _, _ => False
def OwAt (K : PySem.W.Frag) (A : Addr → Prop) (H : Hp) (a : Addr) : Ow → Prop
  | .lst ds => ∃ xs, H a = some (.lst xs) ∧ DaL K A H xs ds
  | .dct ds => ∃ kvs, H a = some (.dK kvs) ∧ KvR K A H kvs ds
  | .ins C fs => ∃ dx vs, H a = some (.ins C dx vs) ∧ FsR K A H vs fs
  | .lsi C gs => ∃ xs, H a = some (.lst xs) ∧ InsL K A H C xs gs
def DX (c : Cy) (A : Addr → Prop) (H : Hp) (v : V) : D → Prop
  | .py p => Da c.K A H v p
  | .mine w => ∃ a, v = .ref a ∧ ¬ c.S0 a ∧ A a ∧ OwAt c.K A H a w
  | .dct ds => ∃ a kvs, v = .ref a ∧ ¬ A a ∧ H a = some (.dK kvs) ∧ KvR c.K A H kvs ds
  | .dcl ds => ∃ a kvs od, v = .ref a ∧ ¬ A a ∧ H a = some (.frz od (.dK kvs)) ∧ KvR c.K A H kvs ds
  | .brw ds => ∃ a xs, v = .ref a ∧ c.k ≠ some a ∧ c.S0 a ∧ H a = some (.lst xs) ∧ DaL c.K A H xs ds
  | .ins C fs => ∃ a dx vs, v = .ref a ∧ ¬ A a ∧ H a = some (.ins C dx vs) ∧ FsR c.K A H vs fs
  | .atom w => v = w
  | .kln => ∃ a, v = .ref a ∧ c.k = some a
  | .lsx => ∃ a xs, v = .ref a ∧ ¬ A a ∧ H a = some (.lst xs)
  | .obj φ => ∃ (a : Addr) (o : HO), v = .ref a ∧ (¬ A a ∧ φ a o) ∧ H a = some o

section
variable {c : Cy} {A B : Addr → Prop} {H H' : Hp} {v : V} {d : D}
theorem FsR.keep {K : PySem.W.Frag} {S : Addr → Prop} (k : Kept S H H') : ∀ {vs : List (Str × V)} {fs : List (Str × PyData)}, FsR K S H vs fs → FsR K S H' vs fs
  | [], [], _ => True.intro
  | (x, v) :: r, (y, d) :: s, ⟨e, h, t⟩ => ⟨e, h.keep k, FsR.keep k t⟩
  | [], _ :: _, h => h.elim
  | _ :: _, [], h => h.elim
theorem FsR.less {K : PySem.W.Frag} {S T : Addr → Prop} (w : ∀ a, T a → S a) : ∀ {vs : List (Str × V)} {fs : List (Str × PyData)}, FsR K S H vs fs → FsR K T H vs fs
  | [], [], _ => True.intro
  | (x, v) :: r, (y, d) :: s, ⟨e, h, t⟩ => ⟨e, h.less w, FsR.less w t⟩
  | [], _ :: _, h => h.elim
  | _ :: _, [], h => h.elim
theorem FsR.look {K : PySem.W.Frag} {S : Addr → Prop} {f : Str} {p : PyData} : ∀ {vs : List (Str × V)} {fs : List (Str × PyData)}, FsR K S H vs fs → fs.lookup f = some p → ∃ v, vs.lookup f = some v ∧ Da K S H v p
  | [], [], _, e => by simp at e
  | (x, v) :: r, (y, d) :: s, ⟨e, h, t⟩, q => by
    subst e
    rw [List.lookup_cons] at q ⊢
    by_cases z : (f == x) = true
    · rw [z] at q ⊢
      exact ⟨v, rfl, by cases q; exact h⟩
    · have z' : (f == x) = false := by simpa using z
      rw [z'] at q ⊢
      exact FsR.look t q
  | [], _ :: _, h, _ => h.elim
  | _ :: _, [], h, _ => h.elim
theorem KvR.keep {K : PySem.W.Frag} {S : Addr → Prop} (k : Kept S H H') : ∀ {vs : List (Key × V)} {fs : List (Key × PyData)}, KvR K S H vs fs → KvR K S H' vs fs
  | [], [], _ => True.intro
  | (x, v) :: r, (y, d) :: s, ⟨e, h, t⟩ => ⟨e, h.keep k, KvR.keep k t⟩
  | [], _ :: _, h => h.elim
  | _ :: _, [], h => h.elim
theorem KvR.less {K : PySem.W.Frag} {S T : Addr → Prop} (w : ∀ a, T a → S a) : ∀ {vs : List (Key × V)} {fs : List (Key × PyData)}, KvR K S H vs fs → KvR K T H vs fs
  | [], [], _ => True.intro
  | (x, v) :: r, (y, d) :: s, ⟨e, h, t⟩ => ⟨e, h.less w, KvR.less w t⟩
  | [], _ :: _, h => h.elim
  | _ :: _, [], h => h.elim
theorem InsL.keep {K : PySem.W.Frag} {S : Addr → Prop} {C : Addr} (k : Kept S H H') : ∀ {vs : List V} {gs : List (List (Str × PyData))}, InsL K S H C vs gs → InsL K S H' C vs gs
  | [], [], _ => True.intro
  | v :: r, g :: s, ⟨⟨b, dx, vs, e, n, q, f⟩, t⟩ => ⟨⟨b, dx, vs, e, n, k b _ n q, f.keep k⟩, InsL.keep k t⟩
  | [], _ :: _, h => h.elim
  | _ :: _, [], h => h.elim
theorem InsL.less {K : PySem.W.Frag} {S T : Addr → Prop} {C : Addr} (w : ∀ a, T a → S a) : ∀ {vs : List V} {gs : List (List (Str × PyData))}, InsL K S H C vs gs → InsL K T H C vs gs
  | [], [], _ => True.intro
  | v :: r, g :: s, ⟨⟨b, dx, vs, e, n, q, f⟩, t⟩ => ⟨⟨b, dx, vs, e, fun z => n (w b z), q, f.less w⟩, InsL.less w t⟩
  | [], _ :: _, h => h.elim
  | _ :: _, [], h => h.elim
theorem InsL.len {K : PySem.W.Frag} {S : Addr → Prop} {C : Addr} : ∀ {vs : List V} {gs : List (List (Str × PyData))}, InsL K S H C vs gs → vs.length = gs.length
  | [], [], _ => rfl
  | v :: r, g :: s, ⟨_, t⟩ => by rw [List.length_cons, List.length_cons, InsL.len t]
  | [], _ :: _, h => h.elim
  | _ :: _, [], h => h.elim
theorem OwAt.keep {K : PySem.W.Frag} {S : Addr → Prop} {a : Addr} {w : Ow} (k : Kept S H H') (ka : ∀ o, H a = some o → H' a = some o) (h : OwAt K S H a w) : OwAt K S H' a w := by
  cases w with
  | lst ds => obtain ⟨xs, h1, h2⟩ := h; exact ⟨xs, ka _ h1, h2.keep k⟩
  | dct ds => obtain ⟨xs, h1, h2⟩ := h; exact ⟨xs, ka _ h1, h2.keep k⟩
  | ins C fs => obtain ⟨dx, vs, h1, h2⟩ := h; exact ⟨dx, vs, ka _ h1, h2.keep k⟩
  | lsi C gs => obtain ⟨xs, h1, h2⟩ := h; exact ⟨xs, ka _ h1, h2.keep k⟩
theorem OwAt.less {K : PySem.W.Frag} {S T : Addr → Prop} {a : Addr} {w : Ow} (u : ∀ a, T a → S a) (h : OwAt K S H a w) : OwAt K T H a w := by
  cases w with
  | lst ds => obtain ⟨xs, h1, h2⟩ := h; exact ⟨xs, h1, h2.less u⟩
  | dct ds => obtain ⟨xs, h1, h2⟩ := h; exact ⟨xs, h1, h2.less u⟩
  | ins C fs => obtain ⟨dx, vs, h1, h2⟩ := h; exact ⟨dx, vs, h1, h2.less u⟩
  | lsi C gs => obtain ⟨xs, h1, h2⟩ := h; exact ⟨xs, h1, h2.less u⟩
theorem OwAt.al {K : PySem.W.Frag} {S : Addr → Prop} {a : Addr} {w : Ow} (h : OwAt K S H a w) : H a ≠ none := by
  cases w with
  | lst ds => obtain ⟨xs, h1, h2⟩ := h; rw [h1]; exact fun z => nomatch z
  | dct ds => obtain ⟨xs, h1, h2⟩ := h; rw [h1]; exact fun z => nomatch z
  | ins C fs => obtain ⟨dx, vs, h1, h2⟩ := h; rw [h1]; exact fun z => nomatch z
  | lsi C gs => obtain ⟨xs, h1, h2⟩ := h; rw [h1]; exact fun z => nomatch z
theorem Ek.refl : Ek c H H := Kept.refl
theorem Ek.trans {H1 H2 : Hp} (a : Ek c H H1) (b : Ek c H1 H2) : Ek c H H2 := Kept.trans a b
theorem Ek.kept (e : Ek c H H') (hA : ∀ a, c.k = some a → A a) : Kept A H H' := fun a o n h => e a o (fun z => n (hA a z)) h
theorem Ek.new {p : Addr} {o : HO} (h : H p = none) : Ek c H (upd H p o) := fun a u _ e => by rw [upd_ne (ne_of_none e h)]; exact e
theorem DX.keep (e : Ek c H H') (hA : ∀ a, c.k = some a → A a) (h : DX c A H v d) : DX c A H' v d := by
  have k := e.kept hA
  cases d with
  | py p => exact Da.keep k h
  | mine w => obtain ⟨a, q, n, m, t⟩ := h; exact ⟨a, q, n, m, t.keep k fun o r => e a o (fun z => n (c.hk a z)) r⟩
  | dct ds => obtain ⟨a, kvs, q, n, r, t⟩ := h; exact ⟨a, kvs, q, n, e a _ (fun z => n (hA a z)) r, t.keep k⟩
  | dcl ds => obtain ⟨a, kvs, od, q, n, r, t⟩ := h; exact ⟨a, kvs, od, q, n, e a _ (fun z => n (hA a z)) r, t.keep k⟩
  | brw ds => obtain ⟨a, xs, q, n, m, r, t⟩ := h; exact ⟨a, xs, q, n, m, e a _ n r, t.keep k⟩
  | ins C fs => obtain ⟨a, dx, vs, q, n, r, t⟩ := h; exact ⟨a, dx, vs, q, n, e a _ (fun z => n (hA a z)) r, t.keep k⟩
  | atom w => exact h
  | kln => exact h
  | lsx => obtain ⟨a, xs, q, n, r⟩ := h; exact ⟨a, xs, q, n, e a _ (fun z => n (hA a z)) r⟩
  | obj φ => obtain ⟨a, xs, q, ⟨n, fφ⟩, r⟩ := h; exact ⟨a, xs, q, ⟨n, fφ⟩, e a _ (fun z => n (hA a z)) r⟩
theorem DX.less (w : ∀ a, B a → A a) (nm : d.nm = true) (h : DX c A H v d) : DX c B H v d := by
  cases d with
  | py p => exact Da.less w h
  | mine ds => cases nm
  | dct ds => obtain ⟨a, kvs, q, n, r, t⟩ := h; exact ⟨a, kvs, q, fun z => n (w a z), r, t.less w⟩
  | dcl ds => obtain ⟨a, kvs, od, q, n, r, t⟩ := h; exact ⟨a, kvs, od, q, fun z => n (w a z), r, t.less w⟩
  | brw ds => obtain ⟨a, xs, q, n, m, r, t⟩ := h; exact ⟨a, xs, q, n, m, r, t.less w⟩
  | ins C fs => obtain ⟨a, dx, vs, q, n, r, t⟩ := h; exact ⟨a, dx, vs, q, fun z => n (w a z), r, t.less w⟩
  | atom w => exact h
  | kln => exact h
  | lsx => obtain ⟨a, xs, q, n, r⟩ := h; exact ⟨a, xs, q, fun z => n (w a z), r⟩
  | obj φ => obtain ⟨a, xs, q, ⟨n, fφ⟩, r⟩ := h; exact ⟨a, xs, q, ⟨fun z => n (w a z), fφ⟩, r⟩
theorem Good.le {n m : Nat} (g : Good c n H) (h : n ≤ m) : Good c m H := ⟨g.al, fun a e => by
  obtain ⟨x, y, z, q, h1, h2, h3, h4, h5⟩ := g.kl a e
  exact ⟨x, y, z, q, h1, h2, h3, h4, by omega⟩⟩
theorem Good.new {n : Nat} {p : Addr} {o : HO} (g : Good c n H) (h : H p = none) : Good c n (upd H p o) := ⟨fun a s => by
    by_cases e : a = p
    · rw [e, upd_same]; exact fun z => nomatch z
    · rw [upd_ne e]; exact g.al a s, fun a s => by
    have := g.kl a s
    have e : a ≠ p := fun e => by obtain ⟨_, _, _, q, _⟩ := this; rw [e, h] at q; cases q
    rw [upd_ne e]; exact this⟩
end

/-! ## names -/
inductive Slo where
  | emp
  | val (d : D)
  | own (w : Ow)
structure En where
  sl : List Slo
  n : Nat
def ownA (σ : St) (e : List Slo) (a : Addr) : Prop := ∃ (i : Nat) (w : Ow), e[i]? = some (Slo.own w) ∧ σ[i]? = some (some (V.ref a))
def Av (c : Cy) (σ : St) (e : List Slo) (a : Addr) : Prop := c.S0 a ∨ ownA σ e a

structure Ok (c : Cy) (A : Addr → Prop) (H : Hp) (σ : St) (e : En) : Prop where
  len : σ.length = e.sl.length
  good : Good c e.n H
  sub : ∀ a, Av c σ e.sl a → A a
  al : ∀ a, A a → H a ≠ none
  val : ∀ (i : Nat) (d : D), e.sl[i]? = some (Slo.val d) → d.nm = true ∧ ∃ v : V, σ[i]? = some (some v) ∧ DX c A H v d
  own : ∀ (i : Nat) (w : Ow), e.sl[i]? = some (Slo.own w) → ∃ a : Addr, σ[i]? = some (some (V.ref a)) ∧ OwAt c.K A H a w ∧ ¬ c.S0 a
  sep : ∀ (i j : Nat) (ds es : Ow) (a : Addr), e.sl[i]? = some (Slo.own ds) → e.sl[j]? = some (Slo.own es) → σ[i]? = some (some (V.ref a)) → σ[j]? = some (some (V.ref a)) → i = j
section
variable {c : Cy} {A B : Addr → Prop} {H H' : Hp} {σ : St} {e : En}
theorem Ok.k (o : Ok c A H σ e) (a : Addr) (h : c.k = some a) : A a := o.sub a (.inl (c.hk a h))
theorem Ok.keep {n : Nat} (o : Ok c A H σ e) (k : Ek c H H') (g : Good c n H') : Ok c A H' σ ⟨e.sl, n⟩ :=
  ⟨o.len, g, o.sub, fun a z => (by
    by_cases w : c.k = some a
    · obtain ⟨_, _, _, q, _⟩ := g.kl a w
      rw [q]; exact fun z => nomatch z
    · cases q : H a with
      | none => exact absurd q (o.al a z)
      | some u => rw [k a u w q]; exact fun z => nomatch z), fun i d h => by
    obtain ⟨nm, v, h1, h2⟩ := o.val i d h
    exact ⟨nm, v, h1, h2.keep k o.k⟩, fun i ds h => by
    obtain ⟨a, h1, h3, h4⟩ := o.own i ds h
    exact ⟨a, h1, h3.keep (k.kept o.k) fun u r => k a u (fun z => h4 (c.hk a z)) r, h4⟩, o.sep⟩
theorem Ok.less (o : Ok c A H σ e) (w : ∀ a, B a → A a) (s : ∀ a, Av c σ e.sl a → B a) : Ok c B H σ e :=
  ⟨o.len, o.good, s, fun a z => o.al a (w a z), fun i d h => by
    obtain ⟨nm, v, h1, h2⟩ := o.val i d h
    exact ⟨nm, v, h1, h2.less w nm⟩, fun i ds h => by
    obtain ⟨a, h1, h3, h4⟩ := o.own i ds h
    exact ⟨a, h1, h3.less w, h4⟩, o.sep⟩
mutual
theorem Da.apart {K : PySem.W.Frag} {p : Addr} (n : H p = none) : ∀ {v : V} {d : PyData}, Da K A H v d → Da K (fun a => A a ∨ a = p) H v d
  | _, _, .non => .non
  | _, _, .bl b => .bl b
  | _, _, .int i => .int i
  | _, _, .str x => .str x
  | _, _, .ed m r => .ed (fun z => Or.elim z m fun q => by rw [q, n] at r; cases r) r
  | _, _, .lst m r t => .lst (fun z => Or.elim z m fun q => by subst q; rcases r with r | ⟨_, r⟩ <;> rw [n] at r <;> cases r) r (DaL.apart n t)
  | _, _, .tup m r t => .tup (fun z => Or.elim z m fun q => by subst q; rcases r with r | ⟨_, r⟩ <;> rw [n] at r <;> cases r) r (DaL.apart n t)
  | _, _, .lstK r t => .lstK r (DaL.apart n t)
  | _, _, .tupK r t => .tupK r (DaL.apart n t)
theorem DaL.apart {K : PySem.W.Frag} {p : Addr} (n : H p = none) : ∀ {vs : List V} {ds : List PyData}, DaL K A H vs ds → DaL K (fun a => A a ∨ a = p) H vs ds
  | _, _, .nil => .nil
  | _, _, .cons h t => .cons (Da.apart n h) (DaL.apart n t)
end
theorem FsR.apart {K : PySem.W.Frag} {p : Addr} (n : H p = none) : ∀ {vs : List (Str × V)} {fs : List (Str × PyData)}, FsR K A H vs fs → FsR K (fun a => A a ∨ a = p) H vs fs
  | [], [], _ => True.intro
  | (x, v) :: r, (y, d) :: s, ⟨e, h, t⟩ => ⟨e, h.apart n, FsR.apart n t⟩
  | [], _ :: _, h => h.elim
  | _ :: _, [], h => h.elim
theorem KvR.apart {K : PySem.W.Frag} {p : Addr} (n : H p = none) : ∀ {vs : List (Key × V)} {fs : List (Key × PyData)}, KvR K A H vs fs → KvR K (fun a => A a ∨ a = p) H vs fs
  | [], [], _ => True.intro
  | (x, v) :: r, (y, d) :: s, ⟨e, h, t⟩ => ⟨e, h.apart n, KvR.apart n t⟩
  | [], _ :: _, h => h.elim
  | _ :: _, [], h => h.elim
theorem InsL.apart {K : PySem.W.Frag} {p C : Addr} (n : H p = none) : ∀ {vs : List V} {gs : List (List (Str × PyData))}, InsL K A H C vs gs → InsL K (fun a => A a ∨ a = p) H C vs gs
  | [], [], _ => True.intro
  | v :: r, g :: s, ⟨⟨b, dx, vs, e, m, q, f⟩, t⟩ => ⟨⟨b, dx, vs, e, fun z => z.elim m fun w => (by rw [w, n] at q; cases q), q, f.apart n⟩, InsL.apart n t⟩
  | [], _ :: _, h => h.elim
  | _ :: _, [], h => h.elim
theorem OwAt.apart {K : PySem.W.Frag} {p a : Addr} {w : Ow} (n : H p = none) (h : OwAt K A H a w) : OwAt K (fun a => A a ∨ a = p) H a w := by
  cases w with
  | lst ds => obtain ⟨xs, h1, h2⟩ := h; exact ⟨xs, h1, h2.apart n⟩
  | dct ds => obtain ⟨xs, h1, h2⟩ := h; exact ⟨xs, h1, h2.apart n⟩
  | ins C fs => obtain ⟨dx, vs, h1, h2⟩ := h; exact ⟨dx, vs, h1, h2.apart n⟩
  | lsi C gs => obtain ⟨xs, h1, h2⟩ := h; exact ⟨xs, h1, h2.apart n⟩
theorem DX.apart {v : V} {d : D} {p : Addr} (n : H p = none) (h : DX c A H v d) : DX c (fun a => A a ∨ a = p) H v d := by
  cases d with
  | py q => exact Da.apart n h
  | mine w => obtain ⟨a, q, m, l, t⟩ := h; exact ⟨a, q, m, .inl l, t.apart n⟩
  | dct ds => obtain ⟨a, kvs, q, m, r, t⟩ := h; exact ⟨a, kvs, q, (fun z => Or.elim z m fun w => by rw [w, n] at r; cases r), r, t.apart n⟩
  | dcl ds => obtain ⟨a, kvs, od, q, m, r, t⟩ := h; exact ⟨a, kvs, od, q, (fun z => Or.elim z m fun w => by rw [w, n] at r; cases r), r, t.apart n⟩
  | brw ds => obtain ⟨a, xs, q, m, s, r, t⟩ := h; exact ⟨a, xs, q, m, s, r, t.apart n⟩
  | ins C fs => obtain ⟨a, dx, vs, q, m, r, t⟩ := h; exact ⟨a, dx, vs, q, (fun z => Or.elim z m fun w => by rw [w, n] at r; cases r), r, t.apart n⟩
  | atom w => exact h
  | kln => exact h
  | lsx => obtain ⟨a, xs, q, m, r⟩ := h; exact ⟨a, xs, q, (fun z => Or.elim z m fun w => by rw [w, n] at r; cases r), r⟩
  | obj φ => obtain ⟨a, xs, q, ⟨m, fφ⟩, r⟩ := h; exact ⟨a, xs, q, ⟨(fun z => Or.elim z m fun w => by rw [w, n] at r; cases r), fφ⟩, r⟩
end

/-! ## the judgements -/
structure Wp (c : Cy) (te : TE) (e : En) (Φ : D → Nat → Prop) : Prop where
  run : ∀ (σ : St) (A : Addr → Prop) (H : Hp), Ok c A H σ e → ∀ Q : VK, (∀ v H2 d n, Φ d n → Ek c H H2 → Good c n H2 → DX c A H2 v d → Q v H2) → te σ H Q
structure Wt (c : Cy) (tt : TT) (e : En) (Φ : Bool → Nat → Prop) : Prop where
  run : ∀ (σ : St) (A : Addr → Prop) (H : Hp), Ok c A H σ e → ∀ Q : Bool → Hp → Prop, (∀ b H2 n, Φ b n → Ek c H H2 → Good c n H2 → Q b H2) → tt σ H Q
def DXs (c : Cy) (A : Addr → Prop) (H : Hp) : List V → List D → Prop
  | [], [] => True
  | v :: vs, d :: ds => DX c A H v d ∧ DXs c A H vs ds
  | _, _ => False
structure Wa (c : Cy) (ta : TA) (e : En) (Φ : List D → Nat → Prop) : Prop where
  run : ∀ (σ : St) (A : Addr → Prop) (H : Hp), Ok c A H σ e → ∀ Q : List V → Hp → Prop, (∀ vs H2 ds n, Φ ds n → Ek c H H2 → Good c n H2 → DXs c A H2 vs ds → Q vs H2) → ta σ H Q
/-- what is known where an operation stands -/
structure At (c : Cy) (A : Addr → Prop) (n : Nat) (H : Hp) : Prop where
  good : Good c n H
  al : ∀ a, A a → H a ≠ none
  s : ∀ a, c.S0 a → A a
theorem At.k {c : Cy} {A : Addr → Prop} {n : Nat} {H : Hp} (x : At c A n H) (a : Addr) (h : c.k = some a) : A a := x.s a (c.hk a h)
structure Rw (c : Cy) (r : R2) (d1 d2 : D) (n : Nat) (Φ : D → Nat → Prop) : Prop where
  run : ∀ (A : Addr → Prop) (H : Hp) (v1 v2 : V), At c A n H → DX c A H v1 d1 → DX c A H v2 d2 → ∀ Q : VK, (∀ v H2 d m, Φ d m → Ek c H H2 → Good c m H2 → DX c A H2 v d → Q v H2) → r v1 v2 H Q
structure Uw (c : Cy) (r : V → Hp → VK → Prop) (d1 : D) (n : Nat) (Φ : D → Nat → Prop) : Prop where
  run : ∀ (A : Addr → Prop) (H : Hp) (v1 : V), At c A n H → DX c A H v1 d1 → ∀ Q : VK, (∀ v H2 d m, Φ d m → Ek c H H2 → Good c m H2 → DX c A H2 v d → Q v H2) → r v1 H Q
structure Cw (c : Cy) (r : List V → Hp → VK → Prop) (ds : List D) (n : Nat) (Φ : D → Nat → Prop) : Prop where
  run : ∀ (A : Addr → Prop) (H : Hp) (vs : List V), At c A n H → DXs c A H vs ds → ∀ Q : VK, (∀ v H2 d m, Φ d m → Ek c H H2 → Good c m H2 → DX c A H2 v d → Q v H2) → r vs H Q

section
variable {c : Cy} {e : En} {Φ : D → Nat → Prop} {ta tb te : TE}
theorem Ok.at_ {A : Addr → Prop} {H : Hp} {σ : St} (o : Ok c A H σ e) : At c A e.n H := ⟨o.good, o.al, fun a z => o.sub a (.inl z)⟩
theorem DXs.keep {A : Addr → Prop} {H H' : Hp} (k : Ek c H H') (hA : ∀ a, c.k = some a → A a) : ∀ {vs : List V} {ds : List D}, DXs c A H vs ds → DXs c A H' vs ds
  | [], [], _ => True.intro
  | v :: vs, d :: ds, ⟨h, t⟩ => ⟨h.keep k hA, DXs.keep k hA t⟩
  | [], _ :: _, h => h.elim
  | _ :: _, [], h => h.elim
theorem DXs.len {A : Addr → Prop} {H : Hp} : ∀ {vs : List V} {ds : List D}, DXs c A H vs ds → vs.length = ds.length
  | [], [], _ => rfl
  | v :: vs, d :: ds, ⟨h, t⟩ => by simp only [List.length_cons]; rw [DXs.len t]
  | [], _ :: _, h => h.elim
  | _ :: _, [], h => h.elim

theorem Wp.mono {Ψ : D → Nat → Prop} (h : Wp c te e Φ) (w : ∀ d n, Φ d n → Ψ d n) : Wp c te e Ψ := ⟨fun σ A H o Q q => h.run σ A H o Q fun v H2 d n p => q v H2 d n (w d n p)⟩
/-- a name's value -/
theorem wp_var {sl : List Slo} {nn : Nat} {i : Nat} {d : D} (h : sl[i]? = some (.val d)) (q : Φ d nn) : Wp c (tVar i) ⟨sl, nn⟩ Φ := ⟨fun σ A H o Q k => by
  obtain ⟨_, v, h1, h2⟩ := o.val i d h
  exact ⟨v, h1, k v H d nn q Ek.refl o.good h2⟩⟩
theorem wp_own {sl : List Slo} {nn : Nat} {i : Nat} {w : Ow} (h : sl[i]? = some (.own w)) (q : Φ (.mine w) nn) : Wp c (tVar i) ⟨sl, nn⟩ Φ := ⟨fun σ A H o Q k => by
  obtain ⟨a, h1, h3, h4⟩ := o.own i w h
  exact ⟨.ref a, h1, k _ H (.mine w) nn q Ek.refl o.good ⟨a, rfl, h4, o.sub a (.inr ⟨i, w, h, h1⟩), h3⟩⟩⟩
def pyV : V → PyData
  | .bl b => .bool b
  | .int i => .int i
  | .str x => .str x
  | _ => .none
def isSc : V → Bool
  | .non => true
  | .bl _ => true
  | .int _ => true
  | .str _ => true
  | _ => false
theorem Da.sc {K : PySem.W.Frag} {S : Addr → Prop} {H : Hp} {v : V} (h : isSc v = true) : Da K S H v (pyV v) := by
  cases v with
  | non => exact .non
  | bl b => exact .bl b
  | int i => exact .int i
  | str x => exact .str x
  | _ => cases h
theorem wp_c {sl : List Slo} {nn : Nat} {v : V} (h : isSc v = true) (q : Φ (.py (pyV v)) nn) : Wp c (tC v) ⟨sl, nn⟩ Φ := ⟨fun σ A H o Q k => k v H _ nn q Ek.refl o.good (Da.sc h)⟩
theorem wp_atom {sl : List Slo} {nn : Nat} {v : V} (q : Φ (.atom v) nn) : Wp c (tC v) ⟨sl, nn⟩ Φ := ⟨fun σ A H o Q k => k v H _ nn q Ek.refl o.good rfl⟩
theorem wp_op {sl : List Slo} {nn : Nat} {r : R2} (h : Wp c ta ⟨sl, nn⟩ fun d1 n1 => Wp c tb ⟨sl, n1⟩ fun d2 n2 => Rw c r d1 d2 n2 Φ) : Wp c (tOp r ta tb) ⟨sl, nn⟩ Φ := ⟨fun σ A H o Q k => by
  refine h.run σ A H o _ fun v1 H1 d1 n1 p1 e1 g1 x1 => ?_
  have o1 := o.keep e1 g1
  refine p1.run σ A H1 o1 _ fun v2 H2 d2 n2 p2 e2 g2 x2 => ?_
  have o2 := o1.keep e2 g2
  exact p2.run A H2 v1 v2 o2.at_ (x1.keep e2 o.k) x2 Q fun v H3 d m q e3 g3 x3 => k v H3 d m q ((e1.trans e2).trans e3) g3 x3⟩
theorem wp_un {sl : List Slo} {nn : Nat} {r : V → Hp → VK → Prop} (h : Wp c ta ⟨sl, nn⟩ fun d1 n1 => Uw c r d1 n1 Φ) : Wp c (tUn r ta) ⟨sl, nn⟩ Φ := ⟨fun σ A H o Q k => by
  refine h.run σ A H o _ fun v1 H1 d1 n1 p1 e1 g1 x1 => ?_
  have o1 := o.keep e1 g1
  exact p1.run A H1 v1 o1.at_ x1 Q fun v H3 d m q e3 g3 x3 => k v H3 d m q (e1.trans e3) g3 x3⟩
theorem wa_nil {sl : List Slo} {nn : Nat} {Φ : List D → Nat → Prop} (q : Φ [] nn) : Wa c tNil ⟨sl, nn⟩ Φ := ⟨fun σ A H o Q k => k [] H [] nn q Ek.refl o.good True.intro⟩
theorem wa_cons {sl : List Slo} {nn : Nat} {Φ : List D → Nat → Prop} {t : TA} (h : Wp c ta ⟨sl, nn⟩ fun d n => Wa c t ⟨sl, n⟩ fun ds m => Φ (d :: ds) m) : Wa c (tCons ta t) ⟨sl, nn⟩ Φ := ⟨fun σ A H o Q k => by
  refine h.run σ A H o _ fun v1 H1 d1 n1 p1 e1 g1 x1 => ?_
  have o1 := o.keep e1 g1
  refine p1.run σ A H1 o1 _ fun vs H2 ds m p2 e2 g2 x2 => ?_
  exact k (v1 :: vs) H2 (d1 :: ds) m p2 (e1.trans e2) g2 ⟨x1.keep e2 o.k, x2⟩⟩
theorem wp_cb {sl : List Slo} {nn : Nat} {r : List V → Hp → VK → Prop} {t : TA} (h : Wa c t ⟨sl, nn⟩ fun ds n => Cw c r ds n Φ) : Wp c (tCB r t) ⟨sl, nn⟩ Φ := ⟨fun σ A H o Q k => by
  refine h.run σ A H o _ fun vs H1 ds n1 p1 e1 g1 x1 => ?_
  have o1 := o.keep e1 g1
  exact p1.run A H1 vs o1.at_ x1 Q fun v H3 d m q e3 g3 x3 => k v H3 d m q (e1.trans e3) g3 x3⟩
end
end Wx

/-! ### part Wb -/
set_option Elab.async false
set_option linter.all false
set_option maxRecDepth 100000
set_option maxHeartbeats 1000000
set_option autoImplicit false
/-! list + list, read lists (locked ones and constants too). -/
namespace PySem.AutoSeq1
set_option maxRecDepth 8000 in
theorem add_any_lists (l : Addr) (items : Array Value) (n : Nat) (b : Addr) (items2 : Array Value) (n2 : Nat) (s1 s2 : Array (Option Value)) (hc0 : items.size + items2.size ≤ sizeLine) :
    Meets (Builtin.«list.__add__» ⟨[.ref l, .ref b], []⟩) (fun _ R s => s.heap.get? l = some { cls := .type "list", dict := none, data := .seq items n, slots := s1 } ∧ s.heap.get? b = some { cls := .type "list", dict := none, data := .seq items2 n2, slots := s2 } ∧ R (.ok (.ret (Value.ref s.heap.objs.size))) { s with heap := s.heap.push { cls := Value.type "list", data := Data.seq (items ++ items2) }, toks := s.toks }) :=
  .of_wp fun prog w A R s h => by obtain ⟨hp, g, d, tk, os⟩ := s; obtain ⟨hl, hb, h⟩ := h; have f1 := idx_int; have f2 := sub_tuple_tuple; have f3 := sub_list_list; have f4 := sub_tuple_list; have f5 := sub_list_tuple; wp_walk using wpAny_loadPart' hl, wpAny_loadPart' hb; exact ⟨_, rfl, h⟩
end PySem.AutoSeq1
namespace Wx
open PySem L2 PyProof.Rows
def rCatL (K : PySem.W.Frag) : R2 := fun x y H Q => ∃ l b xs zs, x = .ref l ∧ y = .ref b ∧ SqL K H l xs ∧ SqL K H b zs ∧ xs.length + zs.length ≤ sizeLine ∧ ∀ p, H p = none → Q (.ref p) (upd H p (.lst (xs ++ zs)))
theorem op_catL {X : Cx} : OpR X (binaryOp .Add) (rCatL X.K) := by
  intro pins s σ H x y v u Q I rx ry h
  obtain ⟨l, b, xs, zs, rfl, rfl, hH, hB, hz, q⟩ := h
  cases rx
  cases ry
  obtain ⟨its, r, ⟨⟨oc, od, oda, osl⟩, n, e, o1, o2, o3⟩, _⟩ := I.list hH
  obtain ⟨its2, r2, ⟨⟨oc', od', oda', osl'⟩, n2, e2, o1', o2', o3'⟩, _⟩ := I.list hB
  dsimp only at o1 o2 o3 o1' o2' o3'
  subst o1 o2 o3 o1' o2' o3'
  have hl := r.length
  have hl2 := r2.length
  have ea : its.toArray ++ its2.toArray = (its ++ its2).toArray := by simp
  refine PySem.concat_meets ⟨_, e, rfl⟩ ⟨_, e2, rfl⟩ PySem.noFill_list_add PySem.seq_list_add PySem.F.slot_list_add PySem.F.entry_list_add (PySem.F.args_list_add_2 _ _) (PySem.AutoSeq1.add_any_lists l its.toArray n b its2.toArray n2 osl osl' (by rw [List.size_toArray, List.size_toArray]; omega)) ⟨e, e2, ?_⟩
  rw [ea]
  exact ⟨.ref _, _, I.lnew (t' := s.toks) (r.append r2) (by rw [List.length_append]; omega), rfl, q _ I.fresh⟩
end Wx

/-! ### part Wy -/
set_option Elab.async false
set_option linter.all false
set_option maxRecDepth 100000
set_option maxHeartbeats 1000000
set_option autoImplicit false
/-! The rules of the calculus: tests, operators, sequences. -/
namespace Wx
open PySem L2

/-! ## operators, any of several kinds -/
def rInTD (K : PySem.W.Frag) : R2 := fun x y H Q => ∃ d ds, Dp K H x d ∧ Dp K H y (.tuple ds) ∧ SeqAt.shaped d = true ∧ SeqAt.shaped (.tuple ds) = true ∧ Q (.bl (ds.any fun z => PyData.eqv z d)) H
def rNiTD (K : PySem.W.Frag) : R2 := fun x y H Q => ∃ d ds, Dp K H x d ∧ Dp K H y (.tuple ds) ∧ SeqAt.shaped d = true ∧ SeqAt.shaped (.tuple ds) = true ∧ Q (.bl (!ds.any fun z => PyData.eqv z d)) H
section
variable {X : Cx}
theorem roomTD {A : Around} {d : PyData} {n : Nat} (h : SeqAt.shaped d = true) (hu : A.units + 65 < cLine) : A.units + 1 + min n d.depth < cLine := by
  have h1 := SeqAt.depth_of_shaped h
  have h2 : min n d.depth ≤ d.depth := Nat.min_le_right _ _
  omega
theorem op_inTD (hu : X.A.units + 65 < cLine) : OpR X (compareOp .In) (rInTD X.K) := by
  intro pins s σ H x y v u Q I rx ry ⟨d, ds, hd, he, sd, se, q⟩
  obtain ⟨as, r1⟩ := Dp.reads I d x v hd rx
  obtain ⟨bs, r2⟩ := Dp.reads I (.tuple ds) y u he ry
  exact SeqAt.in_tuple_reads r2 r1 (SeqAt.canLay_of_shaped se) (SeqAt.canLay_of_shaped sd) (roomTD sd hu) ⟨.bl _, H, I, rfl, q⟩
theorem op_niTD (hu : X.A.units + 65 < cLine) : OpR X (compareOp .NotIn) (rNiTD X.K) := by
  intro pins s σ H x y v u Q I rx ry ⟨d, ds, hd, he, sd, se, q⟩
  obtain ⟨as, r1⟩ := Dp.reads I d x v hd rx
  obtain ⟨bs, r2⟩ := Dp.reads I (.tuple ds) y u he ry
  exact SeqAt.notIn_tuple_reads r2 r1 (SeqAt.canLay_of_shaped se) (SeqAt.canLay_of_shaped sd) (roomTD sd hu) ⟨.bl _, H, I, rfl, q⟩
end
def rIN (K : PySem.W.Frag) : R2 := fun x y H Q => rInD K x y H Q ∨ rInTD K x y H Q
def rNI (K : PySem.W.Frag) : R2 := fun x y H Q => rNotInD K x y H Q ∨ rNiTD K x y H Q
def rAddS : R2 := fun x y H Q => ∃ i j, x = .str i ∧ y = .str j ∧ i.length + j.length ≤ sizeLine ∧ Q (.str (i ++ j)) H
def rADD (K : PySem.W.Frag) : R2 := fun x y H Q => rI0 (fun i j => .int (i + j)) x y H Q ∨ rCatA K x y H Q ∨ rCat x y H Q ∨ rAddS x y H Q ∨ rCatL K x y H Q
def rMUL : R2 := fun x y H Q => rI CMulW (fun i j => .int (i * j)) x y H Q ∨ rRep x y H Q
def rSL (K : PySem.W.Frag) : V → Option Int → Option Int → Hp → VK → Prop := fun x lo hi H Q => rSlA K x lo hi H Q ∨ rSlL K x lo hi H Q ∨ rSlS x lo hi H Q
section
variable {X : Cx}
theorem opIN (hu : X.A.units + 65 < cLine) : OpR X (compareOp .In) (rIN X.K) := (op_inD hu).or (op_inTD hu)
theorem opNI (hu : X.A.units + 65 < cLine) : OpR X (compareOp .NotIn) (rNI X.K) := (op_notInD hu).or (op_niTD hu)
theorem opADD : OpR X (binaryOp .Add) (rADD X.K) := op_add.or (op_catA.or (op_cat.or (op_add_str.or op_catL)))
theorem opMUL : OpR X (binaryOp .Mult) rMUL := op_mulW.or op_rep
theorem slSL : SlR X (rSL X.K) := sl_tupA.or (sl_list.or sl_str)
end

section
variable {c : Cy} {e : En} {Φ : D → Nat → Prop} {ta tb te tc : TE} {t u : TT} {n : Nat} {d1 d2 : D}
/-! ## tests -/
def Bd (d : D) (k : Bool → Prop) : Prop := match d with
  | .py (.bool b) => k b
  | _ => False
/-- truth of data -/
def Td (d : D) (k : Bool → Prop) : Prop := match d with
  | .py .none => k false
  | .py (.bool b) => k b
  | .py (.int i) => k (i != 0)
  | .py (.str x) => x.length ≤ sizeLine ∧ k ((x.length : Int) != 0)
  | .py (.list ds) => k (!ds.isEmpty)
  | .py (.tuple ds) => k (!ds.isEmpty)
  | .mine (.lst ds) => k (!ds.isEmpty)
  | .brw ds => k (!ds.isEmpty)
  | _ => False
theorem wt_test {sl : List Slo} {nn : Nat} {Ψ : Bool → Nat → Prop} (h : Wp c te ⟨sl, nn⟩ fun d n => Bd d fun b => Ψ b n) : Wt c (tTest te) ⟨sl, nn⟩ Ψ := ⟨fun σ A H o Q k => by
  refine h.run σ A H o _ fun v H1 d n p e1 g1 x => ?_
  match d, p, x with
  | .py (.bool b), p, x => exact ⟨b, Da.bl_eq x, k b H1 n p e1 g1⟩⟩
theorem wt_b {sl : List Slo} {nn : Nat} {Ψ : Bool → Nat → Prop} (h : Wp c te ⟨sl, nn⟩ fun d n => Bd d fun b => Ψ b n) : Wt c (tB te) ⟨sl, nn⟩ Ψ := ⟨(wt_test h).run⟩
theorem empty_of {K : PySem.W.Frag} {S : Addr → Prop} {H : Hp} {xs : List V} {ds : List PyData} (h : DaL K S H xs ds) : xs.isEmpty = ds.isEmpty := by cases h <;> rfl
theorem tru_of {A : Addr → Prop} {H : Hp} {v : V} {d : D} {k : Bool → Prop} (x : DX c A H v d) (p : Td d k) : ∃ b, TruV c.K v H b ∧ k b := by
  match d, p, x with
  | .py .none, p, x => cases Da.non_eq x; exact ⟨false, rfl, p⟩
  | .py (.bool b), p, x => cases Da.bl_eq x; exact ⟨b, rfl, p⟩
  | .py (.int i), p, x => cases Da.int_eq x; exact ⟨_, rfl, p⟩
  | .py (.str z), p, x => cases Da.str_eq x; exact ⟨_, ⟨p.1, rfl⟩, p.2⟩
  | .py (.list ds), p, x =>
    obtain ⟨a, xs, rfl, h, t⟩ := Da.list_at x
    exact ⟨_, .inl ⟨xs, h, rfl⟩, by rw [empty_of t]; exact p⟩
  | .py (.tuple ds), p, x =>
    obtain ⟨a, xs, rfl, h, t⟩ := Da.tuple_at x
    exact ⟨_, .inr (.inl ⟨xs, h, rfl⟩), by rw [empty_of t]; exact p⟩
  | .mine (.lst ds), p, x =>
    obtain ⟨a, rfl, _, _, xs, h, t⟩ := x
    exact ⟨_, .inl ⟨xs, SqL.of h, rfl⟩, by rw [empty_of t]; exact p⟩
  | .brw ds, p, x =>
    obtain ⟨a, xs, rfl, _, _, h, t⟩ := x
    exact ⟨_, .inl ⟨xs, SqL.of h, rfl⟩, by rw [empty_of t]; exact p⟩
theorem wt_tru {sl : List Slo} {nn : Nat} {Ψ : Bool → Nat → Prop} {K : PySem.W.Frag} (hK : K = c.K) (h : Wp c te ⟨sl, nn⟩ fun d n => Td d fun b => Ψ b n) : Wt c (fun σ H Q => te σ H fun x H' => ∃ k, TruV K x H' k ∧ Q k H') ⟨sl, nn⟩ Ψ := ⟨fun σ A H o Q k => by
  subst hK
  refine h.run σ A H o _ fun v H1 d n p e1 g1 x => ?_
  obtain ⟨b, h1, h2⟩ := tru_of x p
  exact ⟨b, h1, k b H1 n h2 e1 g1⟩⟩
theorem wt_not {sl : List Slo} {nn : Nat} {Ψ : Bool → Nat → Prop} (h : Wt c t ⟨sl, nn⟩ fun b n => Ψ (!b) n) : Wt c (tNot t) ⟨sl, nn⟩ Ψ := ⟨fun σ A H o Q k => h.run σ A H o _ fun b H1 n p e1 g1 => k (!b) H1 n p e1 g1⟩
theorem wt_and {sl : List Slo} {nn : Nat} {Ψ : Bool → Nat → Prop} (h : Wt c t ⟨sl, nn⟩ fun b n => (b = true → Wt c u ⟨sl, n⟩ Ψ) ∧ (b = false → Ψ false n)) : Wt c (tAnd t u) ⟨sl, nn⟩ Ψ := ⟨fun σ A H o Q k => by
  refine h.run σ A H o _ fun b H1 n p e1 g1 => ?_
  cases b with
  | true => exact iteT ((p.1 rfl).run σ A H1 (o.keep e1 g1) Q fun b2 H2 m q e2 g2 => k b2 H2 m q (e1.trans e2) g2)
  | false => exact iteF (k false H1 n (p.2 rfl) e1 g1)⟩
theorem wt_or {sl : List Slo} {nn : Nat} {Ψ : Bool → Nat → Prop} (h : Wt c t ⟨sl, nn⟩ fun b n => (b = false → Wt c u ⟨sl, n⟩ Ψ) ∧ (b = true → Ψ true n)) : Wt c (tOr t u) ⟨sl, nn⟩ Ψ := ⟨fun σ A H o Q k => by
  refine h.run σ A H o _ fun b H1 n p e1 g1 => ?_
  cases b with
  | false => exact iteF ((p.1 rfl).run σ A H1 (o.keep e1 g1) Q fun b2 H2 m q e2 g2 => k b2 H2 m q (e1.trans e2) g2)
  | true => exact iteT (k true H1 n (p.2 rfl) e1 g1)⟩
theorem wp_if {sl : List Slo} {nn : Nat} (h : Wt c t ⟨sl, nn⟩ fun b n => (b = true → Wp c ta ⟨sl, n⟩ Φ) ∧ (b = false → Wp c tb ⟨sl, n⟩ Φ)) : Wp c (tIf t ta tb) ⟨sl, nn⟩ Φ := ⟨fun σ A H o Q k => by
  refine h.run σ A H o _ fun b H1 n p e1 g1 => ?_
  cases b with
  | true => exact iteT ((p.1 rfl).run σ A H1 (o.keep e1 g1) Q fun v H2 d m q e2 g2 => k v H2 d m q (e1.trans e2) g2)
  | false => exact iteF ((p.2 rfl).run σ A H1 (o.keep e1 g1) Q fun v H2 d m q e2 g2 => k v H2 d m q (e1.trans e2) g2)⟩
theorem wp_notV {sl : List Slo} {nn : Nat} (h : Wp c ta ⟨sl, nn⟩ fun d n => Bd d fun b => Φ (.py (.bool (!b))) n) : Wp c (tNotV ta) ⟨sl, nn⟩ Φ := ⟨fun σ A H o Q k => by
  refine h.run σ A H o _ fun v H1 d n p e1 g1 x => ?_
  match d, p, x with
  | .py (.bool b), p, x => exact ⟨b, Da.bl_eq x, k _ H1 _ n p e1 g1 (.bl (!b))⟩⟩
theorem wp_andV {sl : List Slo} {nn : Nat} (h : Wp c ta ⟨sl, nn⟩ fun d n => Bd d fun b => (b = true → Wp c tb ⟨sl, n⟩ Φ) ∧ (b = false → Φ (.py (.bool false)) n)) : Wp c (tAndV ta tb) ⟨sl, nn⟩ Φ := ⟨fun σ A H o Q k => by
  refine h.run σ A H o _ fun v H1 d n p e1 g1 x => ?_
  match d, p, x with
  | .py (.bool true), p, x => exact ⟨true, Da.bl_eq x, iteT ((p.1 rfl).run σ A H1 (o.keep e1 g1) Q fun v H2 d m q e2 g2 => k v H2 d m q (e1.trans e2) g2)⟩
  | .py (.bool false), p, x => exact ⟨false, Da.bl_eq x, iteF (k _ H1 _ n (p.2 rfl) e1 g1 (.bl false))⟩⟩
theorem wp_orV {sl : List Slo} {nn : Nat} (h : Wp c ta ⟨sl, nn⟩ fun d n => Bd d fun b => (b = false → Wp c tb ⟨sl, n⟩ Φ) ∧ (b = true → Φ (.py (.bool true)) n)) : Wp c (tOrV ta tb) ⟨sl, nn⟩ Φ := ⟨fun σ A H o Q k => by
  refine h.run σ A H o _ fun v H1 d n p e1 g1 x => ?_
  match d, p, x with
  | .py (.bool false), p, x => exact ⟨false, Da.bl_eq x, iteF ((p.1 rfl).run σ A H1 (o.keep e1 g1) Q fun v H2 d m q e2 g2 => k v H2 d m q (e1.trans e2) g2)⟩
  | .py (.bool true), p, x => exact ⟨true, Da.bl_eq x, iteT (k _ H1 _ n (p.2 rfl) e1 g1 (.bl true))⟩⟩
theorem wp_chain {sl : List Slo} {nn : Nat} {r r' : R2} (h : Wp c ta ⟨sl, nn⟩ fun d1 n1 => Wp c tb ⟨sl, n1⟩ fun d2 n2 => Rw c r d1 d2 n2 fun d n => Bd d fun b => (b = true → Wp c tc ⟨sl, n⟩ fun d3 n3 => Rw c r' d2 d3 n3 Φ) ∧ (b = false → Φ (.py (.bool false)) n)) : Wp c (tChain r r' ta tb tc) ⟨sl, nn⟩ Φ := ⟨fun σ A H o Q k => by
  refine h.run σ A H o _ fun v1 H1 d1 n1 p1 e1 g1 x1 => ?_
  have o1 := o.keep e1 g1
  refine p1.run σ A H1 o1 _ fun v2 H2 d2 n2 p2 e2 g2 x2 => ?_
  have o2 := o1.keep e2 g2
  refine p2.run A H2 v1 v2 o2.at_ (x1.keep e2 o.k) x2 _ fun v H3 d m p3 e3 g3 x3 => ?_
  have o3 := o2.keep e3 g3
  match d, p3, x3 with
  | .py (.bool true), p3, x3 =>
    refine ⟨true, Da.bl_eq x3, iteT ((p3.1 rfl).run σ A H3 o3 _ fun v3 H4 d3 n3 p4 e4 g4 x4 => ?_)⟩
    have o4 := o3.keep e4 g4
    exact p4.run A H4 v2 v3 o4.at_ ((x2.keep e3 o.k).keep e4 o.k) x4 Q fun v H5 d m q e5 g5 x5 => k v H5 d m q ((((e1.trans e2).trans e3).trans e4).trans e5) g5 x5
  | .py (.bool false), p3, x3 => exact ⟨false, Da.bl_eq x3, iteF (k _ H3 _ m (p3.2 rfl) ((e1.trans e2).trans e3) g3 (.bl false))⟩⟩

/-! ## operations on whole numbers -/
def Id2 (d1 d2 : D) (k : Int → Int → Prop) : Prop := match d1, d2 with
  | .py (.int i), .py (.int j) => k i j
  | _, _ => False
def Id1 (d1 : D) (k : Int → Prop) : Prop := match d1 with
  | .py (.int i) => k i
  | _ => False
theorem id2 {A : Addr → Prop} {H : Hp} {v1 v2 : V} {k : Int → Int → Prop} (p : Id2 d1 d2 k) (x1 : DX c A H v1 d1) (x2 : DX c A H v2 d2) : ∃ i j, v1 = .int i ∧ v2 = .int j ∧ k i j := by
  match d1, d2, p, x1, x2 with
  | .py (.int i), .py (.int j), p, x1, x2 => exact ⟨i, j, Da.int_eq x1, Da.int_eq x2, p⟩
theorem id1 {A : Addr → Prop} {H : Hp} {v1 : V} {k : Int → Prop} (p : Id1 d1 k) (x1 : DX c A H v1 d1) : ∃ i, v1 = .int i ∧ k i := by
  match d1, p, x1 with
  | .py (.int i), p, x1 => exact ⟨i, Da.int_eq x1, p⟩
theorem rw_i0 {g : Int → Int → V} (hg : ∀ i j, isSc (g i j) = true := by intro _ _; rfl) (h : Id2 d1 d2 fun i j => Φ (.py (pyV (g i j))) n) : Rw c (rI0 g) d1 d2 n Φ := ⟨fun A H v1 v2 a x1 x2 Q k => by
  obtain ⟨i, j, rfl, rfl, q⟩ := id2 h x1 x2
  exact ⟨i, j, rfl, rfl, k _ H _ n q Ek.refl a.good (Da.sc (hg i j))⟩⟩
theorem rw_i {C : Int → Int → Prop} {g : Int → Int → V} (hg : ∀ i j, isSc (g i j) = true := by intro _ _; rfl) (h : Id2 d1 d2 fun i j => C i j ∧ Φ (.py (pyV (g i j))) n) : Rw c (rI C g) d1 d2 n Φ := ⟨fun A H v1 v2 a x1 x2 Q k => by
  obtain ⟨i, j, rfl, rfl, hc, q⟩ := id2 h x1 x2
  exact ⟨i, j, rfl, rfl, hc, k _ H _ n q Ek.refl a.good (Da.sc (hg i j))⟩⟩
theorem uw_u {g : Int → V} (hg : ∀ i, isSc (g i) = true := by intro _; rfl) (h : Id1 d1 fun i => Φ (.py (pyV (g i))) n) : Uw c (rU g) d1 n Φ := ⟨fun A H v1 a x1 Q k => by
  obtain ⟨i, rfl, q⟩ := id1 h x1
  exact ⟨i, rfl, k _ H _ n q Ek.refl a.good (Da.sc (hg i))⟩⟩
theorem rw_addI {K : PySem.W.Frag} (h : Id2 d1 d2 fun i j => Φ (.py (.int (i + j))) n) : Rw c (rADD K) d1 d2 n Φ := ⟨fun A H v1 v2 a x1 x2 Q k => .inl ((rw_i0 (c := c) (g := fun i j => V.int (i + j)) (n := n) (Φ := Φ) (h := h)).run A H v1 v2 a x1 x2 Q k)⟩
theorem rw_mulI (h : Id2 d1 d2 fun i j => CMulW i j ∧ Φ (.py (.int (i * j))) n) : Rw c rMUL d1 d2 n Φ := ⟨fun A H v1 v2 a x1 x2 Q k => .inl ((rw_i (c := c) (C := CMulW) (g := fun i j => V.int (i * j)) (n := n) (Φ := Φ) (h := h)).run A H v1 v2 a x1 x2 Q k)⟩

/-! ## sequences -/
/-- a tuple's data -/
def Tp (d : D) (k : List PyData → Prop) : Prop := match d with
  | .py (.tuple ds) => k ds
  | _ => False
/-- a list's data -/
def Ls (d : D) (k : List PyData → Prop) : Prop := match d with
  | .py (.list ds) => k ds
  | .mine (.lst ds) => k ds
  | .brw ds => k ds
  | _ => False
/-- either's -/
def Sq (d : D) (k : List PyData → Prop) : Prop := match d with
  | .py (.tuple ds) => k ds
  | .py (.list ds) => k ds
  | .mine (.lst ds) => k ds
  | .brw ds => k ds
  | _ => False
theorem ls_of {A : Addr → Prop} {H : Hp} {v : V} {d : D} {k : List PyData → Prop} (p : Ls d k) (x : DX c A H v d) : ∃ a xs ds, v = .ref a ∧ SqL c.K H a xs ∧ DaL c.K A H xs ds ∧ k ds := by
  match d, p, x with
  | .py (.list ds), p, x =>
    obtain ⟨a, xs, rfl, h, t⟩ := Da.list_at x
    exact ⟨a, xs, ds, rfl, h, t, p⟩
  | .mine (.lst ds), p, x =>
    obtain ⟨a, rfl, _, _, xs, h, t⟩ := x
    exact ⟨a, xs, ds, rfl, SqL.of h, t, p⟩
  | .brw ds, p, x =>
    obtain ⟨a, xs, rfl, _, _, h, t⟩ := x
    exact ⟨a, xs, ds, rfl, SqL.of h, t, p⟩
/-- all of them data -/
def Pys : List D → (List PyData → Prop) → Prop
  | [], k => k []
  | .py p :: r, k => Pys r fun ps => k (p :: ps)
  | _ :: _, _ => False
theorem pys_of {A : Addr → Prop} {H : Hp} : ∀ {vs : List V} {ds : List D} {k : List PyData → Prop}, Pys ds k → DXs c A H vs ds → ∃ ps, DaL c.K A H vs ps ∧ k ps
  | [], [], k, p, _ => ⟨[], .nil, p⟩
  | v :: vs, .py q :: ds, k, p, ⟨h, t⟩ => by
    obtain ⟨ps, h1, h2⟩ := pys_of (k := fun ps => k (q :: ps)) p t
    exact ⟨q :: ps, .cons h h1, h2⟩
  | v :: vs, .mine _ :: _, k, p, _ => p.elim
  | v :: vs, .dct _ :: _, k, p, _ => p.elim
  | v :: vs, .dcl _ :: _, k, p, _ => p.elim
  | v :: vs, .brw _ :: _, k, p, _ => p.elim
  | v :: vs, .ins _ _ :: _, k, p, _ => p.elim
  | v :: vs, .atom _ :: _, k, p, _ => p.elim
  | v :: vs, .kln :: _, k, p, _ => p.elim
  | v :: vs, .lsx :: _, k, p, _ => p.elim
  | v :: vs, .obj _ :: _, k, p, _ => p.elim
  | [], _ :: _, k, _, h => h.elim
  | _ :: _, [], k, _, h => h.elim
/-- a new object p: data that is laid there -/
theorem At.fresh {A : Addr → Prop} {H : Hp} {p : Addr} (a : At c A n H) (h : H p = none) : ¬ A p := fun z => a.al p z h
theorem DaL.new {K : PySem.W.Frag} {A : Addr → Prop} {H : Hp} {p : Addr} {o : HO} {xs : List V} {ds : List PyData} (h : DaL K A H xs ds) (n : H p = none) : DaL K A (upd H p o) xs ds := h.keep fun a u _ e => by rw [upd_ne (ne_of_none e n)]; exact e
theorem Ok.fresh {A : Addr → Prop} {H : Hp} {σ : St} {p : Addr} (o : Ok c A H σ e) (h : H p = none) : ¬ A p := fun z => o.al p z h
theorem wp_tup {sl : List Slo} {nn : Nat} {ta : TA} (h : Wa c ta ⟨sl, nn⟩ fun ds n => Pys ds fun ps => ps.length ≤ sizeLine ∧ Φ (.py (.tuple ps)) n) : Wp c (tTup ta) ⟨sl, nn⟩ Φ := ⟨fun σ A H o Q k => by
  refine h.run σ A H o _ fun vs H1 ds n p e1 g1 x => ?_
  obtain ⟨ps, h1, hz, q⟩ := pys_of p x
  have o1 := o.keep e1 g1
  exact ⟨by rw [h1.len]; exact hz, fun r hr => k _ _ _ n q (e1.trans (Ek.new hr)) (g1.new hr) (.tup (o1.fresh hr) (.inl upd_same) (h1.new hr))⟩⟩
theorem fresh_of {H H1 : Hp} {p : Addr} (k : Ek c H H1) (g : Good c n H1) (h : H1 p = none) : H p = none := by
  cases q : H p with
  | none => rfl
  | some u =>
    by_cases z : c.k = some p
    · obtain ⟨_, _, _, q2, _⟩ := g.kl p z
      rw [h] at q2; cases q2
    · rw [k p u z q] at h; cases h
/-- a new list, of one's own -/
structure Wn (c : Cy) (te : TE) (e : En) (Φ : Ow → Nat → Prop) : Prop where
  run : ∀ (σ : St) (A : Addr → Prop) (H : Hp), Ok c A H σ e → ∀ Q : VK, (∀ p H2 w n, Φ w n → Ek c H H2 → Good c n H2 → H p = none → OwAt c.K (fun a => A a ∨ a = p) H2 p w → Q (.ref p) H2) → te σ H Q
def outO : Ow → D
  | .lst ds => .py (.list ds)
  | .dct ds => .dct ds
  | .ins C fs => .ins C fs
  | .lsi _ _ => .lsx
theorem dx_ow {A : Addr → Prop} {H : Hp} {p : Addr} {w : Ow} (n : ¬ A p) (t : OwAt c.K (fun a => A a ∨ a = p) H p w) : DX c A H (.ref p) (outO w) := by
  cases w with
  | lst ds => obtain ⟨xs, h, t⟩ := t; exact .lst n (.inl h) (t.less fun a z => .inl z)
  | dct ds => obtain ⟨xs, h, t⟩ := t; exact ⟨p, xs, rfl, n, h, t.less fun a z => .inl z⟩
  | ins C fs => obtain ⟨dx, vs, h, t⟩ := t; exact ⟨p, dx, vs, rfl, n, h, t.less fun a z => .inl z⟩
  | lsi C gs => obtain ⟨xs, h, t⟩ := t; exact ⟨p, xs, rfl, n, h⟩
theorem wp_new {sl : List Slo} {nn : Nat} (h : Wn c te ⟨sl, nn⟩ fun w n => Φ (outO w) n) : Wp c te ⟨sl, nn⟩ Φ := ⟨fun σ A H o Q k => h.run σ A H o Q fun p H2 w n q e2 g2 hp t => k (.ref p) H2 _ n q e2 g2 (dx_ow (o.fresh hp) t)⟩
/-- by its operation: a new object -/
structure Rn (c : Cy) (r : R2) (d1 d2 : D) (n : Nat) (Φ : Ow → Nat → Prop) : Prop where
  run : ∀ (A : Addr → Prop) (H : Hp) (v1 v2 : V), At c A n H → DX c A H v1 d1 → DX c A H v2 d2 → ∀ Q : VK, (∀ p H2 w m, Φ w m → Ek c H H2 → Good c m H2 → H p = none → OwAt c.K (fun a => A a ∨ a = p) H2 p w → Q (.ref p) H2) → r v1 v2 H Q
structure Cn (c : Cy) (r : List V → Hp → VK → Prop) (ds : List D) (n : Nat) (Φ : Ow → Nat → Prop) : Prop where
  run : ∀ (A : Addr → Prop) (H : Hp) (vs : List V), At c A n H → DXs c A H vs ds → ∀ Q : VK, (∀ p H2 w m, Φ w m → Ek c H H2 → Good c m H2 → H p = none → OwAt c.K (fun a => A a ∨ a = p) H2 p w → Q (.ref p) H2) → r vs H Q
/-- what is laid at p -/
theorem lay {K : PySem.W.Frag} {A : Addr → Prop} {H : Hp} {p : Addr} {o : HO} {xs : List V} {ds : List PyData} (h : DaL K A H xs ds) (n : H p = none) : DaL K (fun a => A a ∨ a = p) (upd H p o) xs ds := (h.apart n).keep fun a u _ e => by rw [upd_ne (ne_of_none e n)]; exact e
theorem wn_lst {sl : List Slo} {nn : Nat} {Ψ : Ow → Nat → Prop} {ta : TA} (h : Wa c ta ⟨sl, nn⟩ fun ds n => Pys ds fun ps => ps.length ≤ sizeLine ∧ Ψ (.lst ps) n) : Wn c (tLst ta) ⟨sl, nn⟩ Ψ := ⟨fun σ A H o Q k => by
  refine h.run σ A H o _ fun vs H1 ds n p e1 g1 x => ?_
  obtain ⟨ps, h1, hz, q⟩ := pys_of p x
  exact ⟨by rw [h1.len]; exact hz, fun r hr => k r _ _ n q (e1.trans (Ek.new hr)) (g1.new hr) (fresh_of e1 g1 hr) ⟨vs, upd_same, lay h1 hr⟩⟩⟩
end
end Wx

/-! ### part Wz -/
set_option Elab.async false
set_option linter.all false
set_option maxRecDepth 100000
set_option maxHeartbeats 1000000
set_option autoImplicit false
/-! The rules of the calculus: items, parts, comparisons, sums of sequences, built-in functions. -/
namespace Wx
open PySem L2
section
variable {c : Cy} {e : En} {Φ : D → Nat → Prop} {Ψ : Ow → Nat → Prop} {ta tb te tc : TE} {n : Nat} {d1 d2 : D} {K : PySem.W.Frag}
/-! ## an item -/
theorem DaL.at_ {S : Addr → Prop} {H : Hp} {xs : List V} {ds : List PyData} {i : Int} {d : PyData} (h : DaL K S H xs ds) (q : atI ds i = some d) : ∃ v, atI xs i = some v ∧ Da K S H v d := by
  unfold atI at q ⊢
  rw [h.len]
  cases z : ixN ds.length i with
  | none => rw [z] at q; cases q
  | some j =>
    rw [z] at q
    exact DaL.get h q
def Ixd : D → D → (PyData → Prop) → Prop
  | .py (.tuple ds), .py (.int i), k => ∃ d, atI ds i = some d ∧ k d
  | .py (.list ds), .py (.int i), k => ∃ d, atI ds i = some d ∧ k d
  | .mine (.lst ds), .py (.int i), k => ∃ d, atI ds i = some d ∧ k d
  | .brw ds, .py (.int i), k => ∃ d, atI ds i = some d ∧ k d
  | .py (.str z), .py (.int i), k => z.length ≤ sizeLine ∧ ∃ ch, atI z.cps.toList i = some ch ∧ k (.str ⟨#[ch]⟩)
  | _, _, _ => False
theorem rw_ix (hK : K = c.K) (h : Ixd d1 d2 fun d => Φ (.py d) n) : Rw c (rIx K) d1 d2 n Φ := ⟨fun A H v1 v2 a x1 x2 Q k => by
  subst hK
  match d1, d2, h, x1, x2 with
  | .py (.tuple ds), .py (.int i), ⟨d, h1, q⟩, x1, x2 =>
    cases Da.int_eq x2
    obtain ⟨b, xs, rfl, hs, t⟩ := Da.tuple_at x1
    obtain ⟨v, h2, y⟩ := t.at_ h1
    exact .inr (.inl ⟨b, xs, i, v, rfl, rfl, hs, h2, k v H _ n q Ek.refl a.good y⟩)
  | .py (.list ds), .py (.int i), ⟨d, h1, q⟩, x1, x2 =>
    cases Da.int_eq x2
    obtain ⟨b, xs, rfl, hs, t⟩ := Da.list_at x1
    obtain ⟨v, h2, y⟩ := t.at_ h1
    exact .inl ⟨b, xs, i, v, rfl, rfl, hs, h2, k v H _ n q Ek.refl a.good y⟩
  | .mine (.lst ds), .py (.int i), ⟨d, h1, q⟩, x1, x2 =>
    cases Da.int_eq x2
    obtain ⟨b, rfl, _, _, xs, hs, t⟩ := x1
    obtain ⟨v, h2, y⟩ := t.at_ h1
    exact .inl ⟨b, xs, i, v, rfl, rfl, SqL.of hs, h2, k v H _ n q Ek.refl a.good y⟩
  | .brw ds, .py (.int i), ⟨d, h1, q⟩, x1, x2 =>
    cases Da.int_eq x2
    obtain ⟨b, xs, rfl, _, _, hs, t⟩ := x1
    obtain ⟨v, h2, y⟩ := t.at_ h1
    exact .inl ⟨b, xs, i, v, rfl, rfl, SqL.of hs, h2, k v H _ n q Ek.refl a.good y⟩
  | .py (.str z), .py (.int i), ⟨hz, ch, h1, q⟩, x1, x2 =>
    cases Da.int_eq x2
    cases Da.str_eq x1
    exact .inr (.inr ⟨z, i, ch, rfl, rfl, hz, h1, k _ H _ n q Ek.refl a.good (.str _)⟩)⟩
/-! ## a part -/
structure Wo (c : Cy) (to : TO) (e : En) (Φ : Option Int → Nat → Prop) : Prop where
  run : ∀ (σ : St) (A : Addr → Prop) (H : Hp), Ok c A H σ e → ∀ Q : Option Int → Hp → Prop, (∀ o H2 n, Φ o n → Ek c H H2 → Good c n H2 → Q o H2) → to σ H Q
theorem wo_no {sl : List Slo} {nn : Nat} {Θ : Option Int → Nat → Prop} (q : Θ none nn) : Wo c tNoPart ⟨sl, nn⟩ Θ := ⟨fun σ A H o Q k => k none H nn q Ek.refl o.good⟩
theorem wo_some {sl : List Slo} {nn : Nat} {Θ : Option Int → Nat → Prop} (h : Wp c te ⟨sl, nn⟩ fun d n => Id1 d fun i => Θ (some i) n) : Wo c (tPart te) ⟨sl, nn⟩ Θ := ⟨fun σ A H o Q k => by
  refine h.run σ A H o _ fun v H1 d n p e1 g1 x => ?_
  obtain ⟨i, rfl, q⟩ := id1 p x
  exact ⟨i, rfl, k (some i) H1 n q e1 g1⟩⟩
def cutD {α : Type} (xs : List α) (lo hi : Option Int) : List α := (xs.drop (HT.sIx xs.length 0 lo)).take (HT.sIx xs.length xs.length hi - HT.sIx xs.length 0 lo)
theorem DaL.cut {S : Addr → Prop} {H : Hp} {xs : List V} {ds : List PyData} (h : DaL K S H xs ds) (lo hi : Option Int) : DaL K S H (cutV xs lo hi) (cutD ds lo hi) := by
  unfold cutV cutD
  rw [h.len]
  exact (h.drop _).take _
theorem cut_all {α : Type} {xs : List α} {lo hi : Option Int} (h : HT.sIx xs.length 0 lo = 0 ∧ HT.sIx xs.length xs.length hi = xs.length) : cutD xs lo hi = xs := by
  unfold cutD
  rw [h.1, h.2]
  simp
def Sld (d : D) (lo hi : Option Int) (k : PyData → Prop) : Prop := match d with
  | .py (.tuple ds) => k (.tuple (cutD ds lo hi))
  | .py (.list ds) => k (.list (cutD ds lo hi))
  | .mine (.lst ds) => k (.list (cutD ds lo hi))
  | .brw ds => k (.list (cutD ds lo hi))
  | .py (.str z) => z.length ≤ sizeLine ∧ k (.str (cutS z lo hi))
  | _ => False
theorem wp_sl {sl : List Slo} {nn : Nat} {tl th : TO} (hK : K = c.K) (h : Wp c te ⟨sl, nn⟩ fun d n => Wo c tl ⟨sl, n⟩ fun lo n1 => Wo c th ⟨sl, n1⟩ fun hi n2 => Sld d lo hi fun p => Φ (.py p) n2) : Wp c (tSl (rSL K) te tl th) ⟨sl, nn⟩ Φ := ⟨fun σ A H o Q k => by
  subst hK
  refine h.run σ A H o _ fun v H1 d n p e1 g1 x => ?_
  have o1 := o.keep e1 g1
  refine p.run σ A H1 o1 _ fun lo H2 n1 p e2 g2 => ?_
  have o2 := o1.keep e2 g2
  refine p.run σ A H2 o2 _ fun hi H3 n2 p e3 g3 => ?_
  have o3 := o2.keep e3 g3
  have x := (x.keep e2 o.k).keep e3 o.k
  have es : Ek c H H3 := (e1.trans e2).trans e3
  have nl : ∀ {b : Addr} {xs : List V} {ds : List PyData}, v = .ref b → SqL c.K H3 b xs → DaL c.K A H3 xs ds → Φ (.py (.list (cutD ds lo hi))) n2 → rSL c.K v lo hi H3 Q := fun {b xs ds} ev hs t q =>
    .inr (.inl ⟨b, xs, ev, hs, fun r hr => k (.ref r) _ _ n2 q (es.trans (Ek.new hr)) (g3.new hr) (.lst (o3.fresh hr) (.inl upd_same) ((t.cut lo hi).new hr))⟩)
  match d, p, x with
  | .py (.tuple ds), p, x =>
    obtain ⟨b, xs, ev, hs, t⟩ := Da.tuple_at x
    refine .inl ⟨b, xs, ev, hs, fun hw => ?_, fun _ r hr => k _ _ _ n2 p (es.trans (Ek.new hr)) (g3.new hr) (.tup (o3.fresh hr) (.inl upd_same) ((t.cut lo hi).new hr))⟩
    rw [t.len] at hw
    have p' : Φ (.py (.tuple (cutD ds lo hi))) n2 := p
    have q : Φ (.py (.tuple ds)) n2 := by rw [cut_all hw] at p'; exact p'
    exact k _ H3 _ n2 q es g3 (by rw [← ev]; exact x)
  | .py (.list ds), p, x =>
    obtain ⟨b, xs, ev, hs, t⟩ := Da.list_at x
    exact nl ev hs t p
  | .mine (.lst ds), p, x =>
    obtain ⟨b, ev, _, _, xs, hs, t⟩ := x
    exact nl ev (SqL.of hs) t p
  | .brw ds, p, x =>
    obtain ⟨b, xs, ev, _, _, hs, t⟩ := x
    exact nl ev (SqL.of hs) t p
  | .py (.str z), ⟨hz, p⟩, x =>
    cases Da.str_eq x
    exact .inr (.inr ⟨z, rfl, hz, k _ H3 _ n2 p es g3 (.str _)⟩)⟩
/-! ## equality, membership -/
def Pd (d : D) (k : PyData → Prop) : Prop := match d with
  | .py p => k p
  | .mine (.lst ds) => k (.list ds)
  | .brw ds => k (.list ds)
  | _ => False
theorem nod {p : PyData} (h : SeqAt.shaped p = true) : p.hasDict = false := PyData.hasDict_of_canLay p (SeqAt.canLay_of_shaped h)
theorem pd_of {A : Addr → Prop} {H : Hp} {v : V} {d : D} {k : PyData → Prop} (p : Pd d k) (x : DX c A H v d) : ∃ q, (q.hasDict = false → Dp c.K H v q) ∧ k q := by
  match d, p, x with
  | .py q, p, x => exact ⟨q, fun e => Da.dp x e, p⟩
  | .mine (.lst ds), p, x =>
    obtain ⟨a, rfl, _, _, xs, h, t⟩ := x
    exact ⟨_, fun e => .lst (SqL.of h) (t.dp (by simpa [PyData.hasDict] using e)), p⟩
  | .brw ds, p, x =>
    obtain ⟨a, xs, rfl, _, _, h, t⟩ := x
    exact ⟨_, fun e => .lst (SqL.of h) (t.dp (by simpa [PyData.hasDict] using e)), p⟩
theorem rw_eq (hK : K = c.K) (h : Pd d1 fun p => Pd d2 fun q => SeqAt.shaped p = true ∧ SeqAt.shaped q = true ∧ Φ (.py (.bool (PyData.eqv p q))) n) : Rw c (rEqD K) d1 d2 n Φ := ⟨fun A H v1 v2 a x1 x2 Q k => by
  subst hK
  obtain ⟨p, y1, h⟩ := pd_of h x1
  obtain ⟨q, y2, s1, s2, h⟩ := pd_of h x2
  exact ⟨p, q, y1 (nod s1), y2 (nod s2), s1, s2, k _ H _ n h Ek.refl a.good (.bl _)⟩⟩
theorem rw_ne (hK : K = c.K) (h : Pd d1 fun p => Pd d2 fun q => SeqAt.shaped p = true ∧ SeqAt.shaped q = true ∧ Φ (.py (.bool (!PyData.eqv p q))) n) : Rw c (rNeD K) d1 d2 n Φ := ⟨fun A H v1 v2 a x1 x2 Q k => by
  subst hK
  obtain ⟨p, y1, h⟩ := pd_of h x1
  obtain ⟨q, y2, s1, s2, h⟩ := pd_of h x2
  exact ⟨p, q, y1 (nod s1), y2 (nod s2), s1, s2, k _ H _ n h Ek.refl a.good (.bl _)⟩⟩
def Mem (p : PyData) (ds : List PyData) : Bool := ds.any fun z => PyData.eqv z p
def SqP (q : PyData) (k : List PyData → Prop) : Prop := match q with
  | .tuple ds => k ds
  | .list ds => k ds
  | _ => False
theorem rw_in (hK : K = c.K) (h : Pd d1 fun p => Pd d2 fun q => SqP q fun ds => SeqAt.shaped p = true ∧ SeqAt.shaped q = true ∧ Φ (.py (.bool (Mem p ds))) n) : Rw c (rIN K) d1 d2 n Φ := ⟨fun A H v1 v2 a x1 x2 Q k => by
  subst hK
  obtain ⟨p, y1, h⟩ := pd_of h x1
  obtain ⟨q, y2, h⟩ := pd_of h x2
  match q, y2, h with
  | .tuple ds, y2, ⟨s1, s2, h⟩ => exact .inr ⟨p, ds, y1 (nod s1), y2 (nod s2), s1, s2, k _ H _ n h Ek.refl a.good (.bl _)⟩
  | .list ds, y2, ⟨s1, s2, h⟩ => exact .inl ⟨p, ds, y1 (nod s1), y2 (nod s2), s1, s2, k _ H _ n h Ek.refl a.good (.bl _)⟩⟩
theorem rw_ni (hK : K = c.K) (h : Pd d1 fun p => Pd d2 fun q => SqP q fun ds => SeqAt.shaped p = true ∧ SeqAt.shaped q = true ∧ Φ (.py (.bool (!Mem p ds))) n) : Rw c (rNI K) d1 d2 n Φ := ⟨fun A H v1 v2 a x1 x2 Q k => by
  subst hK
  obtain ⟨p, y1, h⟩ := pd_of h x1
  obtain ⟨q, y2, h⟩ := pd_of h x2
  match q, y2, h with
  | .tuple ds, y2, ⟨s1, s2, h⟩ => exact .inr ⟨p, ds, y1 (nod s1), y2 (nod s2), s1, s2, k _ H _ n h Ek.refl a.good (.bl _)⟩
  | .list ds, y2, ⟨s1, s2, h⟩ => exact .inl ⟨p, ds, y1 (nod s1), y2 (nod s2), s1, s2, k _ H _ n h Ek.refl a.good (.bl _)⟩⟩
/-! ## sums of sequences -/
theorem rw_catL (hK : K = c.K) {ds es : List PyData} (h : ds.length + es.length ≤ sizeLine ∧ Φ (.py (.list (ds ++ es))) n) : Rw c (rADD K) (.py (.list ds)) (.py (.list es)) n Φ := ⟨fun A H v1 v2 a x1 x2 Q k => by
  subst hK
  obtain ⟨b1, xs, rfl, h1, t1⟩ := Da.list_at x1
  obtain ⟨b2, ys, rfl, h2, t2⟩ := Da.list_at x2
  refine .inr (.inr (.inr (.inr ⟨b1, b2, xs, ys, rfl, rfl, h1, h2, by rw [t1.len, t2.len]; exact h.1, fun r hr => ?_⟩)))
  exact k (.ref r) _ _ n h.2 (Ek.new hr) (a.good.new hr) (.lst (a.fresh hr) (.inl upd_same) ((t1.append t2).new hr))⟩
theorem rw_catL2 (hK : K = c.K) {ds es : List PyData} (h : ds.length + es.length ≤ sizeLine ∧ Φ (.py (.list (ds ++ es))) n) : Rw c (rADD K) (.py (.list ds)) (outO (.lst es)) n Φ := rw_catL hK h
theorem rw_catL3 (hK : K = c.K) {ds es : List PyData} (h : ds.length + es.length ≤ sizeLine ∧ Φ (.py (.list (ds ++ es))) n) : Rw c (rADD K) (outO (.lst ds)) (outO (.lst es)) n Φ := rw_catL hK h
/-! ## built-in functions -/
def Lend (d : D) (k : Int → Prop) : Prop := match d with
  | .py (.tuple ds) => k ds.length
  | .py (.list ds) => k ds.length
  | .mine (.lst ds) => k ds.length
  | .brw ds => k ds.length
  | .py (.str x) => x.length ≤ sizeLine ∧ k x.length
  | _ => False
def rLEN (K : PySem.W.Frag) : List V → Hp → VK → Prop := fun xs H Q => ∃ x n, xs = [x] ∧ LenV K x H n ∧ Q (.int n) H
theorem callLEN {X : Cx} : CallR X (.builtin "len") (rLEN X.K) := call_len
def One (ds : List D) (k : D → Prop) : Prop := match ds with
  | [d] => k d
  | _ => False
def Two (ds : List D) (k : D → D → Prop) : Prop := match ds with
  | [d, u] => k d u
  | _ => False
theorem one_of {A : Addr → Prop} {H : Hp} {vs : List V} {ds : List D} {k : D → Prop} (p : One ds k) (x : DXs c A H vs ds) : ∃ v d, vs = [v] ∧ DX c A H v d ∧ k d := by
  match vs, ds, p, x with
  | [v], [d], p, ⟨h, _⟩ => exact ⟨v, d, rfl, h, p⟩
  | [], [d], p, h => exact h.elim
  | _ :: _ :: _, [d], p, ⟨_, h⟩ => exact h.elim
theorem two_of {A : Addr → Prop} {H : Hp} {vs : List V} {ds : List D} {k : D → D → Prop} (p : Two ds k) (x : DXs c A H vs ds) : ∃ v w d u, vs = [v, w] ∧ DX c A H v d ∧ DX c A H w u ∧ k d u := by
  match vs, ds, p, x with
  | [v, w], [d, u], p, ⟨h1, h2, _⟩ => exact ⟨v, w, d, u, rfl, h1, h2, p⟩
  | [v], [d, u], p, ⟨_, h⟩ => exact h.elim
  | [], [d, u], p, h => exact h.elim
  | _ :: _ :: _ :: _, [d, u], p, ⟨_, _, h⟩ => exact h.elim
theorem cw_len {ds : List D} (hK : K = c.K) (h : One ds fun d => Lend d fun i => Φ (.py (.int i)) n) : Cw c (rLEN K) ds n Φ := ⟨fun A H vs a x Q k => by
  subst hK
  obtain ⟨v, d, rfl, x, p⟩ := one_of h x
  match d, p, x with
  | .py (.tuple ds), p, x =>
    obtain ⟨b, xs, rfl, hs, t⟩ := Da.tuple_at x
    exact ⟨_, ds.length, rfl, .inr ⟨xs, hs, t.len.symm⟩, k _ H _ n p Ek.refl a.good (.int _)⟩
  | .py (.list ds), p, x =>
    obtain ⟨b, xs, rfl, hs, t⟩ := Da.list_at x
    exact ⟨_, ds.length, rfl, .inl ⟨xs, hs, t.len.symm⟩, k _ H _ n p Ek.refl a.good (.int _)⟩
  | .mine (.lst ds), p, x =>
    obtain ⟨b, rfl, _, _, xs, hs, t⟩ := x
    exact ⟨_, ds.length, rfl, .inl ⟨xs, SqL.of hs, t.len.symm⟩, k _ H _ n p Ek.refl a.good (.int _)⟩
  | .brw ds, p, x =>
    obtain ⟨b, xs, rfl, _, _, hs, t⟩ := x
    exact ⟨_, ds.length, rfl, .inl ⟨xs, SqL.of hs, t.len.symm⟩, k _ H _ n p Ek.refl a.good (.int _)⟩
  | .py (.str z), ⟨hz, p⟩, x =>
    cases Da.str_eq x
    exact ⟨_, z.length, rfl, ⟨hz, rfl⟩, k _ H _ n p Ek.refl a.good (.int _)⟩⟩
def rMAX2 : List V → Hp → VK → Prop := fun xs H Q => ∃ i j, xs = [.int i, .int j] ∧ Q (.int (if j > i then j else i)) H
def rMIN2 : List V → Hp → VK → Prop := fun xs H Q => ∃ i j, xs = [.int i, .int j] ∧ Q (.int (if j < i then j else i)) H
theorem callMAX2 {X : Cx} (hc : X.calm = true) : CallR X (.builtin "max") rMAX2 := call_max2 hc
theorem callMIN2 {X : Cx} (hc : X.calm = true) : CallR X (.builtin "min") rMIN2 := call_min2 hc
theorem cw_max2 {ds : List D} (h : Two ds fun d u => Id2 d u fun i j => Φ (.py (.int (if j > i then j else i))) n) : Cw c rMAX2 ds n Φ := ⟨fun A H vs a x Q k => by
  obtain ⟨v, w, d, u, rfl, x1, x2, p⟩ := two_of h x
  obtain ⟨i, j, rfl, rfl, q⟩ := id2 p x1 x2
  exact ⟨i, j, rfl, k _ H _ n q Ek.refl a.good (.int _)⟩⟩
theorem cw_min2 {ds : List D} (h : Two ds fun d u => Id2 d u fun i j => Φ (.py (.int (if j < i then j else i))) n) : Cw c rMIN2 ds n Φ := ⟨fun A H vs a x Q k => by
  obtain ⟨v, w, d, u, rfl, x1, x2, p⟩ := two_of h x
  obtain ⟨i, j, rfl, rfl, q⟩ := id2 p x1 x2
  exact ⟨i, j, rfl, k _ H _ n q Ek.refl a.good (.int _)⟩⟩
def rINT1 : List V → Hp → VK → Prop := fun xs H Q => (∃ i, xs = [.int i] ∧ Q (.int i) H) ∨ ∃ k, xs = [.bl k] ∧ Q (.int (if k then 1 else 0)) H
def Bint (d : D) (k : Int → Prop) : Prop := match d with
  | .py (.int i) => k i
  | .py (.bool b) => k (if b then 1 else 0)
  | _ => False
theorem cw_int1 {ds : List D} (h : One ds fun d => Bint d fun i => Φ (.py (.int i)) n) : Cw c rINT1 ds n Φ := ⟨fun A H vs a x Q k => by
  obtain ⟨v, d, rfl, x, p⟩ := one_of h x
  match d, p, x with
  | .py (.int i), p, x => cases Da.int_eq x; exact .inl ⟨i, rfl, k _ H _ n p Ek.refl a.good (.int _)⟩
  | .py (.bool b), p, x => cases Da.bl_eq x; exact .inr ⟨b, rfl, k _ H _ n p Ek.refl a.good (.int _)⟩⟩
def rTUPOF (K : PySem.W.Frag) : List V → Hp → VK → Prop := fun xs H Q => ∃ p ys, xs = [.ref p] ∧ ((SqL K H p ys ∧ ∀ l, H l = none → Q (.ref l) (upd H l (.tup ys))) ∨ (SqT K H p ys ∧ Q (.ref p) H))
theorem cw_tuple {ds : List D} (hK : K = c.K) (h : One ds fun d => Sq d fun ps => Φ (.py (.tuple ps)) n) : Cw c (rTUPOF K) ds n Φ := ⟨fun A H vs a x Q k => by
  subst hK
  obtain ⟨v, d, rfl, x, p⟩ := one_of h x
  have nt : ∀ {b : Addr} {xs : List V} {ps : List PyData}, SqL c.K H b xs → DaL c.K A H xs ps → Φ (.py (.tuple ps)) n → rTUPOF c.K [.ref b] H Q := fun {b xs ps} hs t q =>
    ⟨b, xs, rfl, .inl ⟨hs, fun l hl => k (.ref l) _ _ n q (Ek.new hl) (a.good.new hl) (.tup (a.fresh hl) (.inl upd_same) (t.new hl))⟩⟩
  match d, p, x with
  | .py (.tuple ps), p, x =>
    obtain ⟨b, xs, rfl, hs, t⟩ := Da.tuple_at x
    exact ⟨b, xs, rfl, .inr ⟨hs, k _ H _ n p Ek.refl a.good x⟩⟩
  | .py (.list ps), p, x =>
    obtain ⟨b, xs, rfl, hs, t⟩ := Da.list_at x
    exact nt hs t p
  | .mine (.lst ps), p, x =>
    obtain ⟨b, rfl, _, _, xs, hs, t⟩ := x
    exact nt (SqL.of hs) t p
  | .brw ps, p, x =>
    obtain ⟨b, xs, rfl, _, _, hs, t⟩ := x
    exact nt (SqL.of hs) t p⟩
/-- all(..) of a list of truth values -/
def Bls (ds : List PyData) (k : List Bool → Prop) : Prop := ∃ bs : List Bool, ds = bs.map PyData.bool ∧ k bs
theorem DaL.bls {S : Addr → Prop} {H : Hp} : ∀ {xs : List V} {bs : List Bool}, DaL K S H xs (bs.map PyData.bool) → xs = bs.map V.bl
  | [], [], _ => rfl
  | x :: xs, b :: bs, h => by
    cases h with
    | cons h t =>
      cases Da.bl_eq h
      rw [DaL.bls t] <;> rfl
theorem cw_all {ds : List D} (hK : K = c.K) (h : One ds fun d => Ls d fun ps => Bls ps fun bs => Φ (.py (.bool (bs.all id))) n) : Cw c (rAll K) ds n Φ := ⟨fun A H vs a x Q k => by
  subst hK
  obtain ⟨v, d, rfl, x, p⟩ := one_of h x
  obtain ⟨b, xs, ps, rfl, hs, t, bs, rfl, q⟩ := ls_of p x
  exact ⟨b, bs, rfl, by rw [← DaL.bls t]; exact hs, k _ H _ n q Ek.refl a.good (.bl _)⟩⟩
end
section
variable {X : Cx}
theorem callINT1 : CallR X (.type "int") rINT1 := call_int1
theorem callTUPOF : CallR X (.type "tuple") (rTUPOF X.K) := call_tuple_of
end
end Wx

/-! ### part Wv -/
set_option Elab.async false
set_option linter.all false
set_option maxRecDepth 100000
set_option maxHeartbeats 1000000
set_option autoImplicit false
/-! The rules of the calculus: targets, statements, loops, comprehensions, calls, defs. -/
namespace Wx
open PySem L2
/-! ## targets -/
def Apt (js : List Nat) (σ σ' : St) : Prop := σ'.length = σ.length ∧ ∀ i, i ∉ js → σ'[i]? = σ[i]?
structure Wg (c : Cy) (g : TG) (js : List Nat) (d : D) (e : En) (Φ : En → Prop) : Prop where
  run : ∀ (σ : St) (A : Addr → Prop) (H : Hp) (v : V), Ok c A H σ e → DX c A H v d → ∀ Q : St → Hp → Prop, (∀ σ' e', Φ e' → Ok c A H σ' e' → Apt js σ σ' → (∀ a, ownA σ' e'.sl a → ownA σ e.sl a) → Q σ' H) → g v σ H Q
section
variable {c : Cy} {A : Addr → Prop} {H : Hp} {σ : St} {e : En} {d : D} {v : V}
theorem own_set {i : Nat} {y : Option V} {a : Addr} (h : ownA (σ.set i y) (e.sl.set i (.val d)) a) : ownA σ e.sl a := by
  obtain ⟨j, ds, h1, h2⟩ := h
  by_cases q : i = j
  · subst q
    rw [List.getElem?_set] at h1
    split at h1
    · split at h1 <;> cases h1
    · rename_i z; exact absurd rfl z
  · rw [List.getElem?_set_ne q] at h1 h2
    exact ⟨j, ds, h1, h2⟩
theorem own_emp {i : Nat} {y : Option V} {a : Addr} (h : ownA (σ.set i y) (e.sl.set i .emp) a) : ownA σ e.sl a := by
  obtain ⟨j, ds, h1, h2⟩ := h
  by_cases q : i = j
  · subst q
    rw [List.getElem?_set] at h1
    split at h1
    · split at h1 <;> cases h1
    · rename_i z; exact absurd rfl z
  · rw [List.getElem?_set_ne q] at h1 h2
    exact ⟨j, ds, h1, h2⟩
theorem Ok.set_ (o : Ok c A H σ e) {i : Nat} (hi : i < e.sl.length) (nm : d.nm = true) (x : DX c A H v d) : Ok c A H (σ.set i (some v)) ⟨e.sl.set i (.val d), e.n⟩ := by
  refine ⟨by rw [List.length_set, List.length_set]; exact o.len, o.good, fun a z => o.sub a (z.elim .inl fun w => .inr (own_set w)), o.al, fun j u h => ?_, fun j ds h => ?_, fun j l ds es a h1 h2 h3 h4 => ?_⟩
  · by_cases q : i = j
    · subst q
      rw [List.getElem?_set_self hi] at h
      cases h
      exact ⟨nm, v, by rw [List.getElem?_set_self (by rw [o.len]; exact hi)], x⟩
    · have h' : e.sl[j]? = some (Slo.val u) := by rw [← List.getElem?_set_ne q]; exact h
      rw [List.getElem?_set_ne q]
      exact o.val j u h'
  · by_cases q : i = j
    · subst q
      have h' : (e.sl.set i (Slo.val d))[i]? = some (Slo.own ds) := h
      rw [List.getElem?_set_self hi] at h'
      cases h'
    · have h' : e.sl[j]? = some (Slo.own ds) := by rw [← List.getElem?_set_ne q]; exact h
      rw [List.getElem?_set_ne q]
      exact o.own j ds h'
  · have f : ∀ {m : Nat} {fs : Ow}, (e.sl.set i (Slo.val d))[m]? = some (Slo.own fs) → i ≠ m := fun {m fs} h q => by
      subst q
      rw [List.getElem?_set_self hi] at h
      cases h
    have q1 := f h1
    have q2 := f h2
    have h1' : e.sl[j]? = some (Slo.own ds) := by rw [← List.getElem?_set_ne q1]; exact h1
    have h2' : e.sl[l]? = some (Slo.own es) := by rw [← List.getElem?_set_ne q2]; exact h2
    rw [List.getElem?_set_ne q1] at h3
    rw [List.getElem?_set_ne q2] at h4
    exact o.sep j l ds es a h1' h2' h3 h4
theorem Ok.wipe1 (o : Ok c A H σ e) {i : Nat} (hi : i < e.sl.length) : Ok c A H (σ.set i none) ⟨e.sl.set i .emp, e.n⟩ := by
  refine ⟨by rw [List.length_set, List.length_set]; exact o.len, o.good, fun a z => o.sub a (z.elim .inl fun w => .inr (own_emp w)), o.al, fun j u h => ?_, fun j ds h => ?_, fun j l ds es a h1 h2 h3 h4 => ?_⟩
  · by_cases q : i = j
    · subst q
      rw [List.getElem?_set_self hi] at h
      cases h
    · have h' : e.sl[j]? = some (Slo.val u) := by rw [← List.getElem?_set_ne q]; exact h
      rw [List.getElem?_set_ne q]
      exact o.val j u h'
  · by_cases q : i = j
    · subst q
      have h' : (e.sl.set i Slo.emp)[i]? = some (Slo.own ds) := h
      rw [List.getElem?_set_self hi] at h'
      cases h'
    · have h' : e.sl[j]? = some (Slo.own ds) := by rw [← List.getElem?_set_ne q]; exact h
      rw [List.getElem?_set_ne q]
      exact o.own j ds h'
  · have f : ∀ {m : Nat} {fs : Ow}, (e.sl.set i Slo.emp)[m]? = some (Slo.own fs) → i ≠ m := fun {m fs} h q => by
      subst q
      rw [List.getElem?_set_self hi] at h
      cases h
    have q1 := f h1
    have q2 := f h2
    have h1' : e.sl[j]? = some (Slo.own ds) := by rw [← List.getElem?_set_ne q1]; exact h1
    have h2' : e.sl[l]? = some (Slo.own es) := by rw [← List.getElem?_set_ne q2]; exact h2
    rw [List.getElem?_set_ne q1] at h3
    rw [List.getElem?_set_ne q2] at h4
    exact o.sep j l ds es a h1' h2' h3 h4
/-- a new list of one's own goes to a name -/
theorem Ok.set_own {H0 : Hp} {p : Addr} {w : Ow} {n : Nat} (o : Ok c A H0 σ e) (k : Ek c H0 H) (g : Good c n H) (hp : H0 p = none) (t : OwAt c.K (fun a => A a ∨ a = p) H p w) {i : Nat} (hi : i < e.sl.length) :
    Ok c (fun a => A a ∨ a = p) H (σ.set i (some (.ref p))) ⟨e.sl.set i (.own w), n⟩ := by
  have nS : ¬ c.S0 p := fun z => o.good.al p z hp
  have k' : ∀ a, c.k = some a → A a ∨ a = p := fun a z => .inl (o.k a z)
  have notp : ∀ (j : Nat) (es : Ow) (a : Addr), e.sl[j]? = some (Slo.own es) → σ[j]? = some (some (V.ref a)) → a ≠ p := fun j es a h1 h3 q => by
    obtain ⟨b, h5, h6, _⟩ := o.own j es h1
    rw [h3] at h5; cases h5
    exact h6.al (by rw [q]; exact hp)
  refine ⟨by rw [List.length_set, List.length_set]; exact o.len, g, fun a z => ?_, fun a z => ?_, fun j u h => ?_, fun j es h => ?_, fun j l es fs a h1 h2 h3 h4 => ?_⟩
  · rcases z with z | ⟨j, es, h1, h3⟩
    · exact .inl (o.sub a (.inl z))
    · by_cases q : i = j
      · subst q
        rw [List.getElem?_set_self (by rw [o.len]; exact hi)] at h3
        cases h3
        exact .inr rfl
      · rw [List.getElem?_set_ne q] at h3
        have h1' : e.sl[j]? = some (Slo.own es) := by rw [← List.getElem?_set_ne q]; exact h1
        exact .inl (o.sub a (.inr ⟨j, es, h1', h3⟩))
  · rcases z with z | z
    · exact (o.keep k g).al a z
    · rw [z]; exact t.al
  · by_cases q : i = j
    · subst q
      have h' : (e.sl.set i (Slo.own w))[i]? = some (Slo.val u) := h
      rw [List.getElem?_set_self hi] at h'
      cases h'
    · have h' : e.sl[j]? = some (Slo.val u) := by rw [← List.getElem?_set_ne q]; exact h
      obtain ⟨nm, w, h3, h4⟩ := o.val j u h'
      rw [List.getElem?_set_ne q]
      exact ⟨nm, w, h3, (h4.apart hp).keep k k'⟩
  · by_cases q : i = j
    · subst q
      have h' : (e.sl.set i (Slo.own w))[i]? = some (Slo.own es) := h
      rw [List.getElem?_set_self hi] at h'
      cases h'
      exact ⟨p, by rw [List.getElem?_set_self (by rw [o.len]; exact hi)], t, nS⟩
    · have h' : e.sl[j]? = some (Slo.own es) := by rw [← List.getElem?_set_ne q]; exact h
      obtain ⟨b, h3, h5, h6⟩ := o.own j es h'
      rw [List.getElem?_set_ne q]
      exact ⟨b, h3, (h5.apart hp).keep (Ek.kept k k') fun u r => k b u (fun z => h6 (c.hk b z)) r, h6⟩
  · have f : ∀ {m : Nat} {gs : Ow}, (e.sl.set i (Slo.own w))[m]? = some (Slo.own gs) → i ≠ m → e.sl[m]? = some (Slo.own gs) := fun {m gs} h q => by rw [← List.getElem?_set_ne q]; exact h
    by_cases q1 : i = j
    · by_cases q2 : i = l
      · rw [← q1, ← q2]
      · subst q1
        rw [List.getElem?_set_self (by rw [o.len]; exact hi)] at h3
        rw [List.getElem?_set_ne q2] at h4
        cases h3
        exact absurd rfl (notp l fs _ (f h2 q2) h4)
    · by_cases q2 : i = l
      · subst q2
        rw [List.getElem?_set_self (by rw [o.len]; exact hi)] at h4
        rw [List.getElem?_set_ne q1] at h3
        cases h4
        exact absurd rfl (notp j es _ (f h1 q1) h3)
      · rw [List.getElem?_set_ne q1] at h3
        rw [List.getElem?_set_ne q2] at h4
        exact o.sep j l es fs a (f h1 q1) (f h2 q2) h3 h4
theorem Apt.set {i : Nat} {y : Option V} {js : List Nat} (h : i ∈ js) : Apt js σ (σ.set i y) := ⟨List.length_set, fun j hj => List.getElem?_set_ne fun (q : i = j) => hj (by rw [← q]; exact h)⟩
theorem Apt.trans {σ1 σ2 : St} {js : List Nat} (a : Apt js σ σ1) (b : Apt js σ1 σ2) : Apt js σ σ2 := ⟨b.1.trans a.1, fun i h => (b.2 i h).trans (a.2 i h)⟩
variable {Φ : En → Prop} {js : List Nat}
theorem wg_name {i : Nat} (q : d.nm = true ∧ Φ ⟨e.sl.set i (.val d), e.n⟩) (hi : i < e.sl.length := by first | decide | (simp; done)) (hj : i ∈ js := by first | decide | (simp; done)) : Wg c (gName i) js d e Φ := ⟨fun σ A H v o x Q k => k _ _ q.2 (o.set_ hi q.1 x) (Apt.set hj) fun _ => own_set⟩
theorem wg_pair {K : PySem.W.Frag} {g1 g2 : TG} (hK : K = c.K) (h : ∃ p q, d = .py (.tuple [p, q]) ∧ Wg c g1 js (.py p) e fun e1 => Wg c g2 js (.py q) e1 Φ) : Wg c (gTup K 2 (gCons g1 (gCons g2 gNil))) js d e Φ := ⟨fun σ A H v o x Q k => by
  subst hK
  obtain ⟨p, q, rfl, h⟩ := h
  obtain ⟨a, xs, rfl, hs, t⟩ := Da.tuple_at x
  cases t with
  | cons y1 t =>
    cases t with
    | cons y2 t =>
      cases t
      refine ⟨a, _, rfl, hs, rfl, _, _, rfl, h.run σ A H _ o y1 _ fun σ1 e1 h1 o1 w1 u1 => ⟨_, _, rfl, h1.run σ1 A H _ o1 y2 _ fun σ2 e2 h2 o2 w2 u2 => ⟨rfl, k σ2 e2 h2 o2 (w1.trans w2) fun b z => u1 b (u2 b z)⟩⟩⟩⟩
end

/-! ## statements -/
structure Po where
  nx : En → Prop
  rt : D → Nat → Prop
  bk : En → Prop := fun _ => False
  ct : En → Prop := fun _ => False
def Kp (c : Cy) (σ : St) (e : En) (H H' : Hp) : Prop := Kept (fun a => c.k = some a ∨ ownA σ e.sl a) H H'
def Gx (c : Cy) (σ : St) (H : Hp) (e : En) (k : En → Prop) (F : St → Hp → Prop) : Prop :=
  ∀ (σ' : St) (A' : Addr → Prop) (H' : Hp) (e' : En), k e' → Kp c σ e H H' → (∀ a, ownA σ' e'.sl a → ownA σ e.sl a ∨ H a = none) → Ok c A' H' σ' e' → F σ' H'
def Rx (c : Cy) (σ : St) (H : Hp) (e : En) (k : D → Nat → Prop) (F : VK) : Prop :=
  ∀ (v : V) (H' : Hp) (d : D) (n : Nat), k d n → Kp c σ e H H' → Good c n H' → DX c c.S0 H' v d → F v H'
structure Ws (c : Cy) (ts : TS) (e : En) (P : Po) : Prop where
  run : ∀ (σ : St) (A : Addr → Prop) (H : Hp), Ok c A H σ e → ∀ Dn : Ends, Gx c σ H e P.nx Dn.nx → Rx c σ H e P.rt Dn.rt → Gx c σ H e P.bk Dn.bk → Gx c σ H e P.ct Dn.ct → ts Dn σ H
section
variable {c : Cy} {A A1 : Addr → Prop} {H H1 : Hp} {σ σ1 : St} {e e1 : En}
theorem Kp.ek (h : Ek c H H1) : Kp c σ e H H1 := fun a o n q => h a o (fun z => n (.inl z)) q
theorem Kp.trans {H2 : Hp} (a : Kp c σ e H H1) (w : ∀ a, ownA σ1 e1.sl a → ownA σ e.sl a ∨ H a = none) (b : Kp c σ1 e1 H1 H2) : Kp c σ e H H2 := fun x o n h =>
  b x o (fun z => z.elim (fun z => n (.inl z)) fun z => (w x z).elim (fun z => n (.inr z)) fun z => by rw [h] at z; cases z) (a x o n h)
theorem own_back (o : Ok c A H σ e) (g : Good c e1.n H1) (k : Kp c σ e H H1) {a : Addr} (h : ownA σ e.sl a ∨ H1 a = none) : ownA σ e.sl a ∨ H a = none := by
  rcases h with h | h
  · exact .inl h
  · by_cases w : ownA σ e.sl a
    · exact .inl w
    · right
      cases q : H a with
      | none => rfl
      | some u =>
        by_cases z : c.k = some a
        · obtain ⟨_, _, _, q2, _⟩ := g.kl a z
          rw [h] at q2; cases q2
        · rw [k a u (fun y => y.elim z w) q] at h; cases h
theorem Gx.after {k : En → Prop} {F : St → Hp → Prop} (h : Gx c σ H e k F) (o : Ok c A H σ e) (a : Kp c σ e H H1) (w : ∀ a, ownA σ1 e1.sl a → ownA σ e.sl a ∨ H a = none) (o1 : Ok c A1 H1 σ1 e1) : Gx c σ1 H1 e1 k F := fun σ' A' H' e' p b w' o' =>
  h σ' A' H' e' p (a.trans w b) (fun x z => by
    rcases w' x z with z | z
    · exact w x z
    · exact own_back o o1.good a (.inr z)) o'
theorem Rx.after {k : D → Nat → Prop} {F : VK} (h : Rx c σ H e k F) (a : Kp c σ e H H1) (w : ∀ a, ownA σ1 e1.sl a → ownA σ e.sl a ∨ H a = none) : Rx c σ1 H1 e1 k F := fun v H' d n p b g x => h v H' d n p (a.trans w b) g x
theorem Gx.ek {k : En → Prop} {F : St → Hp → Prop} {n : Nat} (h : Gx c σ H e k F) (o : Ok c A H σ e) (a : Ek c H H1) (g : Good c n H1) : Gx c σ H1 ⟨e.sl, n⟩ k F := h.after o (Kp.ek a) (fun _ z => .inl z) (o.keep a g)
theorem Rx.ek {k : D → Nat → Prop} {F : VK} {n : Nat} (h : Rx c σ H e k F) (a : Ek c H H1) : Rx c σ H1 ⟨e.sl, n⟩ k F := h.after (Kp.ek a) fun _ z => .inl z
variable {P : Po} {t u : TS} {te : TE} {tt : TT}
theorem ws_seq {sl : List Slo} {nn : Nat} (h : Ws c t ⟨sl, nn⟩ ⟨fun e1 => Ws c u e1 P, P.rt, P.bk, P.ct⟩) : Ws c (tSeq t u) ⟨sl, nn⟩ P := ⟨fun σ A H o Dn nx rt bk ct =>
  h.run σ A H o { Dn with nx := u Dn } (fun σ1 A1 H1 e1 q a w o1 => q.run σ1 A1 H1 o1 Dn (nx.after o a w o1) (rt.after a w) (bk.after o a w o1) (ct.after o a w o1)) rt bk ct⟩
theorem ws_next {sl : List Slo} {nn : Nat} (q : P.nx ⟨sl, nn⟩) : Ws c tNext ⟨sl, nn⟩ P := ⟨fun σ A H o Dn nx _ _ _ => nx σ A H ⟨sl, nn⟩ q Kept.refl (fun _ z => .inl z) o⟩
theorem ws_if {sl : List Slo} {nn : Nat} (h : Wt c tt ⟨sl, nn⟩ fun b n => (b = true → Ws c t ⟨sl, n⟩ P) ∧ (b = false → Ws c u ⟨sl, n⟩ P)) : Ws c (tIfS tt t u) ⟨sl, nn⟩ P := ⟨fun σ A H o Dn nx rt bk ct => by
  refine h.run σ A H o _ fun b H1 n p e1 g1 => ?_
  cases b with
  | true => exact iteT ((p.1 rfl).run σ A H1 (o.keep e1 g1) Dn (nx.ek o e1 g1) (rt.ek e1) (bk.ek o e1 g1) (ct.ek o e1 g1))
  | false => exact iteF ((p.2 rfl).run σ A H1 (o.keep e1 g1) Dn (nx.ek o e1 g1) (rt.ek e1) (bk.ek o e1 g1) (ct.ek o e1 g1))⟩
def frz : D → D
  | .mine (.lst ds) => .py (.list ds)
  | .mine (.dct ds) => .dct ds
  | .mine (.ins C fs) => .ins C fs
  | .mine (.lsi _ _) => .lsx
  | d => d
theorem frz_ok {v : V} {d : D} (s : ∀ a, c.S0 a → A a) (h : DX c A H v d) : DX c c.S0 H v (frz d) := by
  cases d with
  | mine w =>
    obtain ⟨a, rfl, n, _, t⟩ := h
    cases w with
    | lst ds => obtain ⟨xs, r, t⟩ := t; exact .lst n (.inl r) (t.less s)
    | dct ds => obtain ⟨xs, r, t⟩ := t; exact ⟨a, xs, rfl, n, r, t.less s⟩
    | ins C fs => obtain ⟨dx, vs, r, t⟩ := t; exact ⟨a, dx, vs, rfl, n, r, t.less s⟩
    | lsi C gs => obtain ⟨xs, r, t⟩ := t; exact ⟨a, xs, rfl, n, r⟩
  | dct ds => exact DX.less (d := .dct ds) s rfl h
  | dcl ds => exact DX.less (d := .dcl ds) s rfl h
  | py p => exact DX.less (d := .py p) s rfl h
  | brw ds => exact DX.less (d := .brw ds) s rfl h
  | ins C fs => exact DX.less (d := .ins C fs) s rfl h
  | atom w => exact h
  | kln => exact h
  | lsx => exact DX.less (d := .lsx) s rfl h
  | obj φ => exact DX.less (d := .obj φ) s rfl h
theorem ws_ret {sl : List Slo} {nn : Nat} (h : Wp c te ⟨sl, nn⟩ fun d n => P.rt (frz d) n) : Ws c (tRet te) ⟨sl, nn⟩ P := ⟨fun σ A H o Dn _ rt _ _ => by
  refine h.run σ A H o _ fun v H1 d n p e1 g1 x => ?_
  exact rt v H1 _ n p (Kp.ek e1) g1 (frz_ok (fun a z => o.sub a (.inl z)) x)⟩
theorem ws_drop {sl : List Slo} {nn : Nat} (h : Wp c te ⟨sl, nn⟩ fun d n => P.nx ⟨sl, n⟩) : Ws c (tDrop te) ⟨sl, nn⟩ P := ⟨fun σ A H o Dn nx _ _ _ => by
  refine h.run σ A H o _ fun v H1 d n p e1 g1 x => ?_
  exact nx σ A H1 ⟨sl, n⟩ p (Kp.ek e1) (fun _ z => .inl z) (o.keep e1 g1)⟩
theorem ws_asg {sl : List Slo} {nn : Nat} {g : TG} (js : List Nat) (h : Wp c te ⟨sl, nn⟩ fun d n => Wg c g js d ⟨sl, n⟩ P.nx) : Ws c (tAsg te g) ⟨sl, nn⟩ P := ⟨fun σ A H o Dn nx _ _ _ => by
  refine h.run σ A H o _ fun v H1 d n p e1 g1 x => ?_
  refine p.run σ A H1 v (o.keep e1 g1) x _ fun σ' e' q o' _ w => ?_
  exact nx σ' A H1 e' q (Kp.ek e1) (fun a z => .inl (w a z)) o'⟩
/-- x = a value -/
theorem ws_set {sl : List Slo} {nn : Nat} {i : Nat} (h : Wp c te ⟨sl, nn⟩ fun d n => d.nm = true ∧ P.nx ⟨sl.set i (.val d), n⟩) (hi : i < sl.length := by first | decide | (simp; done)) : Ws c (tAsg te (gName i)) ⟨sl, nn⟩ P :=
  ws_asg [i] (h.mono fun d n q => wg_name (js := [i]) q hi (by simp))
/-- x = a new list that is changed later -/
theorem ws_own {sl : List Slo} {nn : Nat} {i : Nat} (h : Wn c te ⟨sl, nn⟩ fun w n => P.nx ⟨sl.set i (.own w), n⟩) (hi : i < sl.length := by first | decide | (simp; done)) : Ws c (tAsg te (gName i)) ⟨sl, nn⟩ P := ⟨fun σ A H o Dn nx _ _ _ => by
  refine h.run σ A H o _ fun p H1 w n q e1 g1 hp t => ?_
  refine nx (σ.set i (some (.ref p))) (fun a => A a ∨ a = p) H1 ⟨sl.set i (.own w), n⟩ q (Kp.ek e1) (fun a z => ?_) (o.set_own e1 g1 hp t hi)
  obtain ⟨j, es, h3, h4⟩ := z
  by_cases r : i = j
  · subst r
    rw [List.getElem?_set_self (by rw [o.len]; exact hi)] at h4
    cases h4
    exact .inr hp
  · rw [List.getElem?_set_ne r] at h4
    have h3' : sl[j]? = some (Slo.own es) := by rw [← List.getElem?_set_ne r]; exact h3
    exact .inl ⟨j, es, h3', h4⟩⟩
theorem ws_par {sl : List Slo} {nn : Nat} {i j : Nat} {ta : TA} (h : Wa c ta ⟨sl, nn⟩ fun ds n => Two ds fun d u => d.nm = true ∧ u.nm = true ∧ P.nx ⟨(sl.set i (.val d)).set j (.val u), n⟩) (hi : i < sl.length := by first | decide | (simp; done)) (hj : j < sl.length := by first | decide | (simp; done)) : Ws c (tPar i j ta) ⟨sl, nn⟩ P := ⟨fun σ A H o Dn nx _ _ _ => by
  refine h.run σ A H o _ fun vs H1 ds n p e1 g1 x => ?_
  obtain ⟨v, w, d, u, rfl, x1, x2, m1, m2, q⟩ := two_of p x
  have o2 := ((o.keep e1 g1).set_ hi m1 x1).set_ (i := j) (by show j < (sl.set i _).length; rw [List.length_set]; exact hj) m2 x2
  exact ⟨v, w, rfl, nx _ A H1 _ q (Kp.ek e1) (fun a z => .inl (own_set (e := ⟨sl, nn⟩) (own_set (e := ⟨sl.set i (.val d), n⟩) z))) o2⟩⟩
/-- i, j = a new list, a value -/
theorem ws_parN {sl : List Slo} {nn : Nat} {i j : Nat} {te2 : TE} (h : Wn c te ⟨sl, nn⟩ fun w n => Wp c te2 ⟨sl, n⟩ fun d m => d.nm = true ∧ P.nx ⟨(sl.set i (.own w)).set j (.val d), m⟩) (hi : i < sl.length := by first | decide | (simp; done)) (hj : j < sl.length := by first | decide | (simp; done)) (hij : i ≠ j := by decide) :
    Ws c (tPar i j (tCons te (tCons te2 tNil))) ⟨sl, nn⟩ P := ⟨fun σ A H o Dn nx _ _ _ => by
  refine h.run σ A H o _ fun p H1 w n q e1 g1 hp t => ?_
  have o1 : Ok c (fun a => A a ∨ a = p) H1 σ ⟨sl, n⟩ := by
    have o' := o.set_own e1 g1 hp t hi
    exact ⟨o.len, g1, fun a z => .inl (o.sub a z), o'.al, fun j u h => by
      obtain ⟨nm, w, h3, h4⟩ := o.val j u h
      exact ⟨nm, w, h3, (h4.apart hp).keep e1 fun a z => .inl (o.k a z)⟩, fun j es h => by
      obtain ⟨b, h3, h5, h6⟩ := o.own j es h
      exact ⟨b, h3, (h5.apart hp).keep (Ek.kept e1 fun a z => .inl (o.k a z)) fun u r => e1 b u (fun z => h6 (c.hk b z)) r, h6⟩, o.sep⟩
  refine q.run σ _ H1 o1 _ fun v H2 d m q e2 g2 x => ?_
  obtain ⟨nm, q⟩ := q
  have o2 := o.set_own (i := i) (e1.trans e2) g2 hp (t.keep (Ek.kept e2 fun a z => .inl (o.k a z)) fun u r => e2 p u (fun z => o.good.al p (c.hk p z) hp) r) hi
  have o3 := o2.set_ (i := j) (by show j < (sl.set i _).length; rw [List.length_set]; exact hj) nm x
  refine ⟨.ref p, v, rfl, nx _ _ H2 _ q (Kp.ek (e1.trans e2)) (fun a z => ?_) o3⟩
  obtain ⟨l, es, h3, h4⟩ := own_set (e := ⟨sl.set i (.own w), m⟩) z
  by_cases r : i = l
  · subst r
    rw [List.getElem?_set_self (by rw [o.len]; exact hi)] at h4
    cases h4
    exact .inr hp
  · rw [List.getElem?_set_ne r] at h4
    have h3' : sl[l]? = some (Slo.own es) := by rw [← List.getElem?_set_ne r]; exact h3
    exact .inl ⟨l, es, h3', h4⟩⟩
/-- what is one's own is changed -/
theorem Ok.put {i : Nat} {a : Addr} {w w' : Ow} {u : HO} {n : Nat} (o : Ok c A H σ e) (hi : e.sl[i]? = some (.own w)) (h1 : σ[i]? = some (some (.ref a))) (nS : ¬ c.S0 a) (g : Good c n H) (t : OwAt c.K A (upd H a u) a w') :
    Ok c A (upd H a u) σ ⟨e.sl.set i (.own w'), n⟩ ∧ Kp c σ e H (upd H a u) ∧ (∀ b, ownA σ (e.sl.set i (.own w')) b → ownA σ e.sl b) := by
  have aA : A a := o.sub a (.inr ⟨i, w, hi, h1⟩)
  have nk : c.k ≠ some a := fun z => nS (c.hk a z)
  have k2 : Kept A H (upd H a u) := fun b x nb q => by rw [upd_ne fun z => nb (by rw [z]; exact aA)]; exact q
  have il : i < e.sl.length := (List.getElem?_eq_some_iff.mp hi).1
  have back : ∀ b, ownA σ (e.sl.set i (.own w')) b → ownA σ e.sl b := fun b ⟨j, es, z1, z2⟩ => by
    by_cases r : i = j
    · subst r; exact ⟨i, w, hi, z2⟩
    · have z1' : e.sl[j]? = some (Slo.own es) := by rw [← List.getElem?_set_ne r]; exact z1
      exact ⟨j, es, z1', z2⟩
  have g2 : Good c n (upd H a u) := ⟨fun b z => by
      by_cases q : b = a
      · rw [q, upd_same]; exact fun w => nomatch w
      · rw [upd_ne q]; exact g.al b z, fun b z => by
      rw [upd_ne fun q => nk (by rw [← q]; exact z)]; exact g.kl b z⟩
  refine ⟨⟨by rw [List.length_set]; exact o.len, g2, fun b z => z.elim (fun z => o.sub b (.inl z)) fun z => o.sub b (.inr (back b z)), fun b z => ?_, fun j w z => ?_, fun j es z => ?_, fun j l es fs b z1 z2 z3 z4 => ?_⟩, fun b x nb q => by rw [upd_ne fun z => nb (by rw [z]; exact .inr ⟨i, w, hi, h1⟩)]; exact q, back⟩
  · by_cases q : b = a
    · rw [q, upd_same]; exact fun w => nomatch w
    · rw [upd_ne q]; exact o.al b z
  · by_cases r : i = j
    · subst r
      have z' : (e.sl.set i (Slo.own w'))[i]? = some (Slo.val w) := z
      rw [List.getElem?_set_self il] at z'
      cases z'
    · have z' : e.sl[j]? = some (Slo.val w) := by rw [← List.getElem?_set_ne r]; exact z
      obtain ⟨nm, y, y1, y2⟩ := o.val j w z'
      refine ⟨nm, y, y1, ?_⟩
      cases w with
      | py p => exact Da.keep k2 y2
      | mine ds => cases nm
      | dct ds =>
        obtain ⟨b, kvs, w1, w2, w3, w4⟩ := y2
        exact ⟨b, kvs, w1, w2, k2 b _ w2 w3, w4.keep k2⟩
      | dcl ds =>
        obtain ⟨b, kvs, od, w1, w2, w3, w4⟩ := y2
        exact ⟨b, kvs, od, w1, w2, k2 b _ w2 w3, w4.keep k2⟩
      | brw es =>
        obtain ⟨b, ys, w1, w2, w3, w4, w5⟩ := y2
        exact ⟨b, ys, w1, w2, w3, by rw [upd_ne fun z => nS (by rw [← z]; exact w3)]; exact w4, w5.keep k2⟩
      | ins C fs =>
        obtain ⟨b, dx, vs, w1, w2, w3, w4⟩ := y2
        exact ⟨b, dx, vs, w1, w2, k2 b _ w2 w3, w4.keep k2⟩
      | atom w => exact y2
      | kln => exact y2
      | lsx =>
        obtain ⟨b, ys, w1, w2, w3⟩ := y2
        exact ⟨b, ys, w1, w2, k2 b _ w2 w3⟩
      | obj φ =>
        obtain ⟨b, ys, w1, ⟨w2, fφ⟩, w3⟩ := y2
        exact ⟨b, ys, w1, ⟨w2, fφ⟩, k2 b _ w2 w3⟩
  · by_cases r : i = j
    · subst r
      have z' : (e.sl.set i (Slo.own w'))[i]? = some (Slo.own es) := z
      rw [List.getElem?_set_self il] at z'
      cases z'
      exact ⟨a, h1, t, nS⟩
    · have z' : e.sl[j]? = some (Slo.own es) := by rw [← List.getElem?_set_ne r]; exact z
      obtain ⟨b, y1, y3, y4⟩ := o.own j es z'
      exact ⟨b, y1, y3.keep k2 fun x q => by rw [upd_ne fun q => r (o.sep i j w es a hi z' h1 (by rw [← q]; exact y1))]; exact q, y4⟩
  · have f : ∀ {m : Nat} {gs : Ow}, (e.sl.set i (Slo.own w'))[m]? = some (Slo.own gs) → ∃ hs, e.sl[m]? = some (Slo.own hs) := fun {m gs} h => by
      by_cases r : i = m
      · subst r; exact ⟨w, hi⟩
      · rw [List.getElem?_set_ne r] at h; exact ⟨gs, h⟩
    obtain ⟨es', f1⟩ := f z1
    obtain ⟨fs', f2⟩ := f z2
    exact o.sep j l es' fs' b f1 f2 z3 z4
/-- xs.append(e), xs a list of one's own -/
theorem ws_app {sl : List Slo} {nn : Nat} {K : PySem.W.Frag} {i : Nat} {ds : List PyData} (hK : K = c.K) (hi : sl[i]? = some (.own (.lst ds))) (h : Wp c te ⟨sl, nn⟩ fun d n => ∃ p, d = .py p ∧ ds.length < sizeLine ∧ P.nx ⟨sl.set i (.own (.lst (ds ++ [p]))), n⟩) :
    Ws c (tDrop (tBM K "list" rAppend (tVar i) (tCons te tNil))) ⟨sl, nn⟩ P := ⟨fun σ A H o Dn nx _ _ _ => by
  subst hK
  obtain ⟨a, h1, ⟨xs, h2, h3⟩, h4⟩ := o.own i _ hi
  refine ⟨.ref a, h1, .inl ⟨rfl, xs, SqL.of h2⟩, h.run σ A H o _ fun v H1 d n p e1 g1 x => ?_⟩
  obtain ⟨p, rfl, hz, q⟩ := p
  have o1 := o.keep e1 g1
  have nk : c.k ≠ some a := fun z => h4 (c.hk a z)
  have ha : H1 a = some (.lst xs) := e1 a _ nk h2
  have aA : A a := o.sub a (.inr ⟨i, _, hi, h1⟩)
  have k2 : Kept A H1 (upd H1 a (.lst (xs ++ [v]))) := fun b u nb q => by rw [upd_ne fun z => nb (by rw [z]; exact aA)]; exact q
  obtain ⟨o2, kp, bk⟩ := o1.put (w' := .lst (ds ++ [p])) (u := .lst (xs ++ [v])) hi h1 h4 g1 ⟨_, upd_same, ((h3.keep (Ek.kept e1 o.k)).append (.cons x .nil)).keep k2⟩
  exact ⟨a, xs, v, rfl, rfl, ha, by rw [h3.len]; exact hz, nx σ A _ ⟨sl.set i (.own (.lst (ds ++ [p]))), n⟩ q (fun b u nb w => kp b u nb (e1 b u (fun z => nb (.inl z)) w)) (fun b z => .inl (bk b z)) o2⟩⟩
end
end Wx

/-! ### part Wu -/
set_option Elab.async false
set_option linter.all false
set_option maxRecDepth 100000
set_option maxHeartbeats 1000000
set_option autoImplicit false
/-! The rules of the calculus: loops, comprehensions, calls, defs. -/
namespace Wx
open PySem L2
section
variable {K : PySem.W.Frag} {A B M : Addr → Prop} {H H' : Hp}
mutual
theorem Da.to (k : Kept A H H') (w : ∀ a, B a → A a ∨ H a = none) : ∀ {v : V} {d : PyData}, Da K A H v d → Da K B H' v d
  | _, _, .non => .non
  | _, _, .bl b => .bl b
  | _, _, .int i => .int i
  | _, _, .str x => .str x
  | _, _, .ed n r => .ed (fun z => (w _ z).elim n fun q => by rw [q] at r; cases r) (k _ _ n r)
  | _, _, .lst n r t => .lst (fun z => (w _ z).elim n fun q => by rcases r with r | ⟨_, r⟩ <;> rw [q] at r <;> cases r) (k.rd n r) (DaL.to k w t)
  | _, _, .tup n r t => .tup (fun z => (w _ z).elim n fun q => by rcases r with r | ⟨_, r⟩ <;> rw [q] at r <;> cases r) (k.rd n r) (DaL.to k w t)
  | _, _, .lstK r t => .lstK r (DaL.to k w t)
  | _, _, .tupK r t => .tupK r (DaL.to k w t)
theorem DaL.to (k : Kept A H H') (w : ∀ a, B a → A a ∨ H a = none) : ∀ {vs : List V} {ds : List PyData}, DaL K A H vs ds → DaL K B H' vs ds
  | _, _, .nil => .nil
  | _, _, .cons h t => .cons (Da.to k w h) (DaL.to k w t)
end
theorem Kept.mono {S T : Addr → Prop} (k : Kept S H H') (w : ∀ a, S a → T a) : Kept T H H' := fun a o n h => k a o (fun z => n (w a z)) h
end
/-! ## what is walked -/
def Step (H H' : Hp) : Prop := H' = H ∨ ∃ T o, H T = none ∧ H' = upd H T o
theorem Step.kept {S : Addr → Prop} {H H' : Hp} (s : Step H H') : Kept S H H' := fun a o _ h => by
  rcases s with rfl | ⟨T, u, n, rfl⟩
  · exact h
  · rw [upd_ne (ne_of_none h n)]; exact h
theorem Step.good {c : Cy} {n : Nat} {H H' : Hp} (s : Step H H') (g : Good c n H) : Good c n H' := by
  rcases s with rfl | ⟨T, u, m, rfl⟩
  · exact g
  · exact g.new m
structure Gv (c : Cy) (M A : Addr → Prop) (H : Hp) (J : It) (its : List D) : Prop where
  go : ∀ (H' : Hp) (i : Nat), Kept M H H' → i < its.length → J.go i H'
  stop : ∀ (H' : Hp) (i : Nat), Kept M H H' → its.length ≤ i → J.stop i H'
  yld : ∀ (H' : Hp) (i : Nat) (x : V) (H'' : Hp), Kept M H H' → i < its.length → J.yld i H' x H'' →
    ∃ d, its[i]? = some d ∧ Step H' H'' ∧ ∀ B : Addr → Prop, (∀ a, B a → A a ∨ H a = none) → (∀ a, B a → H' a ≠ none) → (∀ a, c.S0 a → B a) → DX c B H'' x d
def Mm (c : Cy) (m : Bool) (σ : St) (e : En) (a : Addr) : Prop := c.k = some a ∨ (m = true ∧ ownA σ e.sl a)
structure Wi (c : Cy) (m : Bool) (wi : TI) (e : En) (Φ : List D → Nat → Prop) : Prop where
  run : ∀ (σ : St) (A : Addr → Prop) (H : Hp), Ok c A H σ e → ∀ R : It → Hp → Prop, (∀ J H1 its n, Φ its n → Ek c H H1 → Good c n H1 → Gv c (Mm c m σ e) A H1 J its → R J H1) → wi σ H R
section
variable {c : Cy} {e : En} {m : Bool} {Θ : List D → Nat → Prop} {tl : TE} {ta : TA} {K : PySem.W.Frag}
theorem Mm.sub {σ : St} {A : Addr → Prop} {H : Hp} (o : Ok c A H σ e) (a : Addr) (h : Mm c m σ e a) : A a := h.elim (fun z => o.k a z) fun z => o.sub a (.inr z.2)
def LsI (m : Bool) (d : D) (k : List PyData → Prop) : Prop := match d with
  | .py (.list ds) => k ds
  | .mine (.lst ds) => m = false ∧ k ds
  | _ => False
theorem getm {ds : List PyData} {i : Nat} {p : PyData} (h : ds[i]? = some p) : (ds.map D.py)[i]? = some (D.py p) := by rw [List.getElem?_map, h] <;> rfl
theorem gv_list {M A : Addr → Prop} {H : Hp} {a : Addr} {xs : List V} {ds : List PyData} (hM : ∀ a, M a → A a) (st : ∀ H', Kept M H H' → SqL c.K H' a xs) (t : DaL c.K A H xs ds) : Gv c M A H (Itl c.K a) (ds.map D.py) :=
  ⟨fun H' i k hi => by
    rw [List.length_map, ← t.len] at hi
    exact ⟨xs, xs[i], st H' k, by simp [hi]⟩, fun H' i k hi => by
    rw [List.length_map, ← t.len] at hi
    exact ⟨xs, st H' k, hi⟩, fun H' i x H'' k hi ⟨e1, y⟩ => by
    subst e1
    have hx := y xs (st _ k)
    obtain ⟨d, h1, h2⟩ := t.got hx
    exact ⟨.py d, getm h1, .inl rfl, fun B w _ _ => Da.to (k.mono hM) w h2⟩⟩
theorem wi_list {sl : List Slo} {nn : Nat} (hK : K = c.K) (h : Wp c tl ⟨sl, nn⟩ fun d n => LsI m d fun ds => Θ (ds.map D.py) n) : Wi c m (iList K tl) ⟨sl, nn⟩ Θ := ⟨fun σ A H o R k => by
  subst hK
  refine h.run σ A H o _ fun v H1 d n p e1 g1 x => ?_
  match d, p, x with
  | .py (.list ds), p, x =>
    have x0 : Da c.K A H1 v (.list ds) := x
    cases x0 with
    | lst na r t => exact ⟨_, rfl, ⟨_, .inl r⟩, k _ H1 _ n p e1 g1 (gv_list (fun a z => Mm.sub o a z) (fun H' kk => .inl ((kk.mono fun a z => Mm.sub o a z).rd na r)) t)⟩
    | lstK r t => exact ⟨_, rfl, ⟨_, r H1⟩, k _ H1 _ n p e1 g1 (gv_list (fun a z => Mm.sub o a z) (fun H' _ => r H') t)⟩
  | .mine (.lst ds), ⟨hm, p⟩, x =>
    obtain ⟨a, rfl, nS, _, xs, r, t⟩ := x
    refine ⟨a, rfl, ⟨xs, SqL.of r⟩, k _ H1 _ n p e1 g1 (gv_list (fun a z => Mm.sub o a z) (fun H' kk => SqL.of (kk a _ (fun z => ?_) r)) t)⟩
    rcases z with z | z
    · exact nS (c.hk a z)
    · rw [hm] at z; exact Bool.false_ne_true z.1⟩
theorem wi_tup {sl : List Slo} {nn : Nat} (hK : K = c.K) (h : Wp c tl ⟨sl, nn⟩ fun d n => Tp d fun ds => Θ (ds.map D.py) n) : Wi c m (iTup K tl) ⟨sl, nn⟩ Θ := ⟨fun σ A H o R k => by
  subst hK
  refine h.run σ A H o _ fun v H1 d n p e1 g1 x => ?_
  match d, p, x with
  | .py (.tuple ds), p, x =>
    have gv : ∀ {a : Addr} {xs : List V}, (∀ H', Kept (Mm c m σ ⟨sl, nn⟩) H1 H' → SqT c.K H' a xs) → DaL c.K A H1 xs ds → Gv c (Mm c m σ ⟨sl, nn⟩) A H1 (Itt c.K a) (ds.map D.py) := fun {a xs} st t =>
      ⟨fun H' i kk hi => by
        rw [List.length_map, ← t.len] at hi
        exact ⟨xs, xs[i], st H' kk, by simp [hi]⟩, fun H' i kk hi => by
        rw [List.length_map, ← t.len] at hi
        exact ⟨xs, st H' kk, hi⟩, fun H' i x H'' kk hi ⟨e1, y⟩ => by
        subst e1
        have hx := y xs (st _ kk)
        obtain ⟨d, h1, h2⟩ := t.got hx
        exact ⟨.py d, getm h1, .inl rfl, fun B w _ _ => Da.to (kk.mono fun a z => Mm.sub o a z) w h2⟩⟩
    have x0 : Da c.K A H1 v (.tuple ds) := x
    cases x0 with
    | tup na r t => exact ⟨_, rfl, ⟨_, .inl r⟩, k _ H1 _ n p e1 g1 (gv (fun H' kk => .inl ((kk.mono fun a z => Mm.sub o a z).rd na r)) t)⟩
    | tupK r t => exact ⟨_, rfl, ⟨_, r H1⟩, k _ H1 _ n p e1 g1 (gv (fun H' _ => r H') t)⟩⟩
/-- the numbers lo, lo + st, .. -/
def seqI (lo st : Int) (n : Nat) : List D := (List.range n).map fun (i : Nat) => D.py (.int (lo + (i : Int) * st))
theorem seqI_get {lo st : Int} {n i : Nat} (h : i < n) : (seqI lo st n)[i]? = some (D.py (.int (lo + (i : Int) * st))) := by
  unfold seqI
  rw [List.getElem?_map, List.getElem?_range h] <;> rfl
theorem seqI_len {lo st : Int} {n : Nat} : (seqI lo st n).length = n := by
  unfold seqI
  rw [List.length_map, List.length_range]
theorem seqI_of {lo st : Int} {n i : Nat} {d : D} (h : (seqI lo st n)[i]? = some d) : i < n ∧ d = D.py (.int (lo + (i : Int) * st)) := by
  have hi : i < n := by
    have := (List.getElem?_eq_some_iff.mp h).1
    rw [seqI_len] at this
    exact this
  rw [seqI_get hi] at h
  exact ⟨hi, (Option.some.inj h).symm⟩
theorem gv_rng {M A : Addr → Prop} {H : Hp} {lo : Int} {n : Nat} : Gv c M A H (Itr lo n) (seqI lo 1 n) :=
  ⟨fun H' i k hi => by rw [seqI_len] at hi; exact hi, fun H' i k hi => by rw [seqI_len] at hi; exact hi, fun H' i x H'' k hi ⟨e1, y⟩ => by
    subst e1 y
    rw [seqI_len] at hi
    refine ⟨_, seqI_get hi, .inl rfl, fun B _ _ _ => ?_⟩
    have q : lo + (i : Int) * 1 = lo + (i : Int) := by rw [Int.mul_one]
    rw [q]
    exact .int _⟩
theorem gv_rngc {M A : Addr → Prop} {H : Hp} {lo st : Int} {n : Nat} : Gv c M A H (Itc lo st n) (seqI lo st n) :=
  ⟨fun H' i k hi => by rw [seqI_len] at hi; exact hi, fun H' i k hi => by rw [seqI_len] at hi; exact hi, fun H' i x H'' k hi ⟨e1, y⟩ => by
    subst e1 y
    rw [seqI_len] at hi
    exact ⟨_, seqI_get hi, .inl rfl, fun B _ _ _ => .int _⟩⟩
theorem wi_rng1 {sl : List Slo} {nn : Nat} (h : Wa c ta ⟨sl, nn⟩ fun ds n => One ds fun d => Id1 d fun j => -(2 ^ 62) ≤ j ∧ j < 2 ^ 62 ∧ Θ (seqI 0 1 j.toNat) n) : Wi c m (iRng1 ta) ⟨sl, nn⟩ Θ := ⟨fun σ A H o R k => by
  refine h.run σ A H o _ fun vs H1 ds n p e1 g1 x => ?_
  obtain ⟨v, d, rfl, x, p⟩ := one_of p x
  obtain ⟨j, rfl, h1, h2, q⟩ := id1 p x
  exact ⟨j, rfl, h1, h2, k _ H1 _ n q e1 g1 gv_rng⟩⟩
def Id3 (ds : List D) (k : Int → Int → Int → Prop) : Prop := match ds with
  | [.py (.int i), .py (.int j), .py (.int l)] => k i j l
  | _ => False
theorem id3 {A : Addr → Prop} {H : Hp} {vs : List V} {ds : List D} {k : Int → Int → Int → Prop} (p : Id3 ds k) (x : DXs c A H vs ds) : ∃ i j l, vs = [.int i, .int j, .int l] ∧ k i j l := by
  match vs, ds, p, x with
  | [v, w, u], [.py (.int i), .py (.int j), .py (.int l)], p, ⟨h1, h2, h3, _⟩ =>
    cases Da.int_eq h1
    cases Da.int_eq h2
    cases Da.int_eq h3
    exact ⟨i, j, l, rfl, p⟩
  | [], [.py (.int i), .py (.int j), .py (.int l)], p, h => exact h.elim
  | [v], [.py (.int i), .py (.int j), .py (.int l)], p, ⟨_, h⟩ => exact h.elim
  | [v, w], [.py (.int i), .py (.int j), .py (.int l)], p, ⟨_, _, h⟩ => exact h.elim
  | _ :: _ :: _ :: _ :: _, [.py (.int i), .py (.int j), .py (.int l)], p, ⟨_, _, _, h⟩ => exact h.elim
theorem wi_rng3 {sl : List Slo} {nn : Nat} (h : Wa c ta ⟨sl, nn⟩ fun ds n => Id3 ds fun i j l => ∃ z, RgC i j l z ∧ Θ (seqI i l z) n) : Wi c m (iRng3 ta) ⟨sl, nn⟩ Θ := ⟨fun σ A H o R k => by
  refine h.run σ A H o _ fun vs H1 ds n p e1 g1 x => ?_
  obtain ⟨i, j, l, rfl, z, hz, q⟩ := id3 p x
  exact ⟨i, j, l, z, rfl, hz, k _ H1 _ n q e1 g1 gv_rngc⟩⟩
end
/-! ## loops -/
section
variable {c : Cy} {e : En} {P : Po} {tb : TS} {g : TG} {wi : TI} {tc : TT}
theorem ws_for {sl : List Slo} {nn : Nat} (js : List Nat) (h : Wi c true wi ⟨sl, nn⟩ fun its n => ∃ I : Nat → En → Prop, I 0 ⟨sl, n⟩ ∧ (∀ i d e1, its[i]? = some d → I i e1 → Wg c g js d e1 fun e2 => Ws c tb e2 ⟨I (i + 1), P.rt, P.nx, I (i + 1)⟩) ∧ ∀ e1, I its.length e1 → P.nx e1) : Ws c (tFor wi g tb) ⟨sl, nn⟩ P := ⟨fun σ A H o Dn nx rt bk ct => by
  refine h.run σ A H o _ fun J H1 its n p e1 g1 gv => ?_
  obtain ⟨I, i0, is, iz⟩ := p
  have o1 := o.keep e1 g1
  refine ⟨fun i m σ' H' => m = its.length - i ∧ i ≤ its.length ∧ ∃ A' e', I i e' ∧ Kp c σ ⟨sl, nn⟩ H H' ∧ Kp c σ ⟨sl, nn⟩ H1 H' ∧ (∀ a, ownA σ' e'.sl a → ownA σ sl a ∨ H a = none) ∧ (∀ a, ownA σ' e'.sl a → ownA σ sl a ∨ H1 a = none) ∧ Ok c A' H' σ' e', ⟨its.length, rfl, Nat.zero_le _, A, ⟨sl, n⟩, i0, Kp.ek e1, Kept.refl, fun a z => .inl z, fun a z => .inl z, o1⟩, ?_⟩
  rintro i m σ' H' ⟨rfl, hi, A', e', hI, kp, kp1, w, w1, o'⟩
  have hM : Kept (Mm c true σ ⟨sl, nn⟩) H1 H' := kp1.mono fun a z => z.elim .inl fun q => .inr ⟨rfl, q⟩
  by_cases hl : i < its.length
  · right
    refine ⟨gv.go H' i hM hl, fun σ2 H2 => i + 1 ≤ its.length ∧ ∃ A2 e2, I (i + 1) e2 ∧ Kp c σ ⟨sl, nn⟩ H H2 ∧ Kp c σ ⟨sl, nn⟩ H1 H2 ∧ (∀ a, ownA σ2 e2.sl a → ownA σ sl a ∨ H a = none) ∧ (∀ a, ownA σ2 e2.sl a → ownA σ sl a ∨ H1 a = none) ∧ Ok c A2 H2 σ2 e2,
      fun σ2 H2 ⟨q1, q2⟩ => ⟨its.length - (i + 1), by omega, rfl, q1, q2⟩, fun x H'' y => ?_⟩
    obtain ⟨d, hd, st, dx⟩ := gv.yld H' i x H'' hM hl y
    have oB : Ok c (Av c σ' e'.sl) H' σ' e' := o'.less o'.sub fun a z => z
    have ks : Ek c H' H'' := st.kept
    have gs : Good c e'.n H'' := st.good o'.good
    have o2 : Ok c (Av c σ' e'.sl) H'' σ' e' := oB.keep ks gs
    have dd := dx (Av c σ' e'.sl) (fun a z => z.elim (fun z => .inl (o.sub a (.inl z))) fun z => (w1 a z).elim (fun q => .inl (o.sub a (.inr q))) .inr) oB.al fun a z => .inl z
    refine (is i d e' hd hI).run σ' _ H'' x o2 dd _ fun σ2 e2 ws o3 _ wo => ?_
    have kp2 : Kp c σ ⟨sl, nn⟩ H H'' := fun a u nn q => st.kept (S := fun _ => False) a u (fun z => z) (kp a u nn q)
    have kp3 : Kp c σ ⟨sl, nn⟩ H1 H'' := fun a u nn q => st.kept (S := fun _ => False) a u (fun z => z) (kp1 a u nn q)
    have w2 : ∀ a, ownA σ2 e2.sl a → ownA σ sl a ∨ H a = none := fun a z => w a (wo a z)
    have w3 : ∀ a, ownA σ2 e2.sl a → ownA σ sl a ∨ H1 a = none := fun a z => w1 a (wo a z)
    have trn : ∀ {σ3 : St} {A3 : Addr → Prop} {H3 : Hp} {e3 : En}, I (i + 1) e3 → Kp c σ2 e2 H'' H3 → (∀ a, ownA σ3 e3.sl a → ownA σ2 e2.sl a ∨ H'' a = none) → Ok c A3 H3 σ3 e3 →
        i + 1 ≤ its.length ∧ ∃ A2 e2, I (i + 1) e2 ∧ Kp c σ ⟨sl, nn⟩ H H3 ∧ Kp c σ ⟨sl, nn⟩ H1 H3 ∧ (∀ a, ownA σ3 e2.sl a → ownA σ sl a ∨ H a = none) ∧ (∀ a, ownA σ3 e2.sl a → ownA σ sl a ∨ H1 a = none) ∧ Ok c A2 H3 σ3 e2 := fun {σ3 A3 H3 e3} q a w4 o4 =>
      ⟨hl, A3, e3, q, kp2.trans w2 a, kp3.trans w3 a, fun x z => (w4 x z).elim (w2 x) fun y => own_back (e1 := e') o gs kp2 (.inr y), fun x z => (w4 x z).elim (w3 x) fun y => own_back (e1 := e') (o.keep e1 g1) gs kp3 (.inr y), o4⟩
    exact ws.run σ2 _ H'' o3 _ (fun σ3 A3 H3 e3 q a w4 o4 => trn q a w4 o4) (rt.after kp2 w2) (nx.after o kp2 w2 o3) (fun σ3 A3 H3 e3 q a w4 o4 => trn q a w4 o4)
  · left
    have q : i = its.length := by omega
    subst q
    exact ⟨gv.stop H' _ hM (Nat.le_refl _), nx σ' A' H' e' (iz e' hI) kp w o'⟩⟩
theorem ws_while {sl : List Slo} {nn : Nat} (I : Nat → En → Prop) (h0 : ∃ m, I m ⟨sl, nn⟩) (h : ∀ m e1, I m e1 → Wt c tc e1 fun b n => (b = true → Ws c tb ⟨e1.sl, n⟩ ⟨fun e2 => ∃ m', m' < m ∧ I m' e2, P.rt, P.nx, fun e2 => ∃ m', m' < m ∧ I m' e2⟩) ∧ (b = false → P.nx ⟨e1.sl, n⟩)) : Ws c (tWhile tc tb) ⟨sl, nn⟩ P := ⟨fun σ A H o Dn nx rt bk ct => by
  obtain ⟨m0, i0⟩ := h0
  refine ⟨fun m σ' H' => ∃ A' e', I m e' ∧ Kp c σ ⟨sl, nn⟩ H H' ∧ (∀ a, ownA σ' e'.sl a → ownA σ sl a ∨ H a = none) ∧ Ok c A' H' σ' e', ⟨m0, A, ⟨sl, nn⟩, i0, Kept.refl, fun a z => .inl z, o⟩, ?_⟩
  rintro m σ' H' ⟨A', e', hI, kp, w, o'⟩
  refine (h m e' hI).run σ' A' H' o' _ fun b H1 n p e1 g1 => ?_
  have o1 := o'.keep e1 g1
  have kp1 : Kp c σ ⟨sl, nn⟩ H H1 := kp.trans w (Kp.ek e1)
  have nx1 := nx.after (σ1 := σ') (e1 := ⟨e'.sl, n⟩) o kp1 w o1
  have rt1 := rt.after (σ1 := σ') (e1 := ⟨e'.sl, n⟩) kp1 w
  cases b with
  | false => exact iteF (nx1 σ' A' H1 ⟨e'.sl, n⟩ (p.2 rfl) Kept.refl (fun a z => .inl z) o1)
  | true =>
    refine iteT ⟨fun σ2 H2 => ∃ m', m' < m ∧ ∃ A2 e2, I m' e2 ∧ Kp c σ ⟨sl, nn⟩ H H2 ∧ (∀ a, ownA σ2 e2.sl a → ownA σ sl a ∨ H a = none) ∧ Ok c A2 H2 σ2 e2, fun σ2 H2 ⟨m', l, q⟩ => ⟨m', l, q⟩, ?_⟩
    have back : ∀ (σ3 : St) (A3 : Addr → Prop) (H3 : Hp) (e3 : En), (∃ m', m' < m ∧ I m' e3) → Kp c σ' ⟨e'.sl, n⟩ H1 H3 → (∀ a, ownA σ3 e3.sl a → ownA σ' e'.sl a ∨ H1 a = none) → Ok c A3 H3 σ3 e3 →
        ∃ m', m' < m ∧ ∃ A2 e2, I m' e2 ∧ Kp c σ ⟨sl, nn⟩ H H3 ∧ (∀ a, ownA σ3 e2.sl a → ownA σ sl a ∨ H a = none) ∧ Ok c A2 H3 σ3 e2 := fun σ3 A3 H3 e3 ⟨m', l, q⟩ a w4 o4 =>
      ⟨m', l, A3, e3, q, kp1.trans w a, fun x z => (w4 x z).elim (w x) fun y => own_back (e1 := ⟨e'.sl, n⟩) o g1 kp1 (.inr y), o4⟩
    exact (p.1 rfl).run σ' A' H1 o1 _ back rt1 nx1 back⟩
end
/-! ## comprehensions -/
def wipeE (e : List Slo) : List Nat → List Slo
  | [] => e
  | v :: vs => (wipeE e vs).set v .emp
section
variable {c : Cy} {e : En} {A : Addr → Prop} {H : Hp} {σ : St}
theorem wipeE_len : ∀ {vs : List Nat}, (wipeE e.sl vs).length = e.sl.length
  | [] => rfl
  | v :: vs => by show ((wipeE e.sl vs).set v .emp).length = _; rw [List.length_set, wipeE_len]
theorem wipe_own : ∀ {vs : List Nat} {a : Addr}, ownA (wipe σ vs) (wipeE e.sl vs) a → ownA σ e.sl a
  | [], _, h => h
  | v :: vs, a, h => wipe_own (vs := vs) (own_emp (e := ⟨wipeE e.sl vs, 0⟩) h)
theorem Ok.wipes (o : Ok c A H σ e) : ∀ {vs : List Nat}, (∀ v ∈ vs, v < e.sl.length) → Ok c A H (wipe σ vs) ⟨wipeE e.sl vs, e.n⟩
  | [], _ => o
  | v :: vs, h => Ok.wipe1 (e := ⟨wipeE e.sl vs, e.n⟩) (Ok.wipes o fun x z => h x (List.mem_cons_of_mem _ z)) (by show v < (wipeE e.sl vs).length; rw [wipeE_len]; exact h v List.mem_cons_self)
theorem wipe_get : ∀ {vs : List Nat} {i : Nat}, (wipe σ vs)[i]? = if i ∈ vs ∧ i < σ.length then some none else σ[i]?
  | [], i => by simp [wipe]
  | v :: vs, i => by
    have lw : ∀ us : List Nat, (wipe σ us).length = σ.length := fun us => by
      induction us with
      | nil => rfl
      | cons u us ih => show ((wipe σ us).set u none).length = _; rw [List.length_set, ih]
    show ((wipe σ vs).set v none)[i]? = _
    rw [List.getElem?_set]
    by_cases q : v = i
    · subst q
      rw [if_pos rfl, lw]
      by_cases l : v < σ.length
      · rw [if_pos l, if_pos ⟨List.mem_cons_self, l⟩]
      · rw [if_neg l, if_neg fun z => l z.2, List.getElem?_eq_none (by omega)]
    · rw [if_neg q, wipe_get]
      simp [List.mem_cons, Ne.symm q]
theorem wipe_apt {σ2 : St} {vs : List Nat} (h : Apt vs (wipe σ vs) σ2) : wipe σ2 vs = wipe σ vs := by
  have lw : ∀ (τ : St) (us : List Nat), (wipe τ us).length = τ.length := fun τ us => by
    induction us with
    | nil => rfl
    | cons u us ih => show ((wipe τ us).set u none).length = _; rw [List.length_set, ih]
  have hl : σ2.length = σ.length := by rw [h.1, lw]
  refine List.ext_getElem? fun i => ?_
  rw [wipe_get, wipe_get]
  by_cases q : i ∈ vs ∧ i < σ.length
  · rw [if_pos q, if_pos (by rw [hl]; exact q)]
  · rw [if_neg q, if_neg (by rw [hl]; exact q)]
    by_cases z : i ∈ vs
    · have l : ¬ i < σ.length := fun l => q ⟨z, l⟩
      rw [List.getElem?_eq_none (by omega), List.getElem?_eq_none (by omega)]
    · rw [h.2 i z, wipe_get, if_neg q]
def Py1 (d : D) (k : PyData → Prop) : Prop := match d with
  | .py p => k p
  | _ => False
theorem wn_lc {sl : List Slo} {nn : Nat} {wi : TI} {g : TG} {tt : TT} {te : TE} {vs : List Nat} {Ψ : Ow → Nat → Prop} (hv : ∀ v ∈ vs, v < sl.length)
    (h : Wi c false wi ⟨sl, nn⟩ fun its n => ∃ I : Nat → List PyData → Nat → Prop, I 0 [] n ∧ its.length < 10000000 ∧
      (∀ i acc m d, its[i]? = some d → I i acc m → Wg c g vs d ⟨wipeE sl vs, m⟩ fun e2 => Wt c tt e2 fun b m2 => (b = true → Wp c te ⟨e2.sl, m2⟩ fun d' m3 => Py1 d' fun p => I (i + 1) (acc ++ [p]) m3) ∧ (b = false → I (i + 1) acc m2)) ∧
      ∀ acc m, I its.length acc m → Ψ (.lst acc) m) : Wn c (tLc wi g tt te vs) ⟨sl, nn⟩ Ψ := ⟨fun σ A H o Q k => by
  refine h.run σ A H o _ fun J H1 its n p e1 g1 gv D hD => ?_
  obtain ⟨I, i0, il, is, iz⟩ := p
  have o1 := o.keep e1 g1
  have oD : ∀ (m : Nat), Good c m H1 → Ok c (fun a => A a ∨ a = D) (upd H1 D (.lst [])) (wipe σ vs) ⟨wipeE sl vs, m⟩ := fun m gm => by
    have ow := (o1.keep (n := m) Ek.refl gm).wipes (vs := vs) hv
    refine ⟨ow.len, gm.new hD, fun a z => .inl (ow.sub a z), fun a z => ?_, fun i d z => ?_, fun i ds z => ?_, ow.sep⟩
    · by_cases q : a = D
      · rw [q, upd_same]; exact fun w => nomatch w
      · rw [upd_ne q]; exact ow.al a (z.elim id fun w => absurd w q)
    · obtain ⟨nm, v, h1, h2⟩ := ow.val i d z
      exact ⟨nm, v, h1, (h2.apart hD).keep (Ek.new hD) fun a w => .inl (o.k a w)⟩
    · obtain ⟨b, h1, h3, h4⟩ := ow.own i ds z
      exact ⟨b, h1, (h3.apart hD).keep (Ek.kept (Ek.new hD) fun a w => .inl (o.k a w)) fun u r => by rw [upd_ne (ne_of_none r hD)]; exact r, h4⟩
  refine ⟨fun i m H' => m = its.length - i ∧ i ≤ its.length ∧ ∃ acc xs nn, I i acc nn ∧ acc.length ≤ i ∧ H' D = some (.lst xs) ∧ DaL c.K (fun a => A a ∨ a = D) H' xs acc ∧ Ok c (fun a => A a ∨ a = D) H' (wipe σ vs) ⟨wipeE sl vs, nn⟩ ∧ Ek c H1 H' ∧ Good c nn H',
    ⟨its.length, rfl, Nat.zero_le _, [], [], n, i0, Nat.le_refl _, upd_same, .nil, oD n g1, Ek.new hD, g1.new hD⟩, ?_⟩
  rintro i m H' ⟨rfl, hi, acc, xs, nn, hI, hac, hDx, t, o', ek, gn⟩
  have hM : Kept (Mm c false σ ⟨sl, nn⟩) H1 H' := ek.mono fun a z => .inl z
  by_cases hl : i < its.length
  · right
    refine ⟨gv.go H' i hM hl, fun H2 => i + 1 ≤ its.length ∧ ∃ acc xs nn, I (i + 1) acc nn ∧ acc.length ≤ i + 1 ∧ H2 D = some (.lst xs) ∧ DaL c.K (fun a => A a ∨ a = D) H2 xs acc ∧ Ok c (fun a => A a ∨ a = D) H2 (wipe σ vs) ⟨wipeE sl vs, nn⟩ ∧ Ek c H1 H2 ∧ Good c nn H2,
      fun H2 ⟨q1, q2⟩ => ⟨its.length - (i + 1), by omega, rfl, q1, q2⟩, fun x H'' y => ?_⟩
    obtain ⟨d, hd, st, dx⟩ := gv.yld H' i x H'' hM hl y
    have ks : Ek c H' H'' := st.kept
    have gs : Good c nn H'' := st.good gn
    have o2 := o'.keep ks gs
    have dd := dx (fun a => A a ∨ a = D) (fun a z => z.elim .inl fun q => .inr (by rw [q]; exact hD)) o'.al fun a z => .inl (o.sub a (.inl z))
    refine (is i acc nn d hd hI).run _ _ H'' x o2 dd _ fun σ2 e2 wt o3 ap wo => ?_
    refine ⟨wipe_apt ap, wt.run σ2 _ H'' o3 _ fun b H3 m2 p2 e3 g3 => ?_⟩
    have o4 := o3.keep e3 g3
    have nD : c.k ≠ some D := fun z => o1.al D (o.k D z) hD
    have d3 : H3 D = some (.lst xs) := e3 D _ nD (ks D _ nD hDx)
    have back : ∀ {H4 : Hp} {m3 : Nat}, Ek c H'' H4 → Good c m3 H4 → Ok c (fun a => A a ∨ a = D) H4 (wipe σ vs) ⟨wipeE sl vs, m3⟩ := fun {H4 m3} ee gg => (o2.keep ee gg)
    cases b with
    | false =>
      refine iteF ⟨hl, acc, xs, m2, p2.2 rfl, by omega, d3, (t.keep (Ek.kept ks o'.k)).keep (Ek.kept e3 o'.k), back e3 g3, (ek.trans ks).trans e3, g3⟩
    | true =>
      refine iteT ((p2.1 rfl).run σ2 _ H3 o4 _ fun v H4 d' m3 p3 e4 g4 xv => ?_)
      match d', p3, xv with
      | .py pp, p3, xv =>
        have d4 : H4 D = some (.lst xs) := e4 D _ nD d3
        have tx : DaL c.K (fun a => A a ∨ a = D) H4 xs acc := ((t.keep (Ek.kept ks o'.k)).keep (Ek.kept e3 o'.k)).keep (Ek.kept e4 o'.k)
        have kA : Kept (fun a => A a ∨ a = D) H4 (upd H4 D (.lst (xs ++ [v]))) := fun a u nn q => by rw [upd_ne fun z => nn (.inr z)]; exact q
        have o5 := back (e3.trans e4) g4
        have g5 : Good c m3 (upd H4 D (.lst (xs ++ [v]))) := ⟨fun b z => by
          by_cases q : b = D
          · rw [q, upd_same]; exact fun w => nomatch w
          · rw [upd_ne q]; exact g4.al b z, fun b z => by
          rw [upd_ne fun q => nD (by rw [← q]; exact z)]; exact g4.kl b z⟩
        refine ⟨xs, d4, by rw [tx.len]; exact Nat.lt_of_le_of_lt hac (Nat.lt_of_lt_of_le (Nat.lt_trans hl il) (by decide)), hl, acc ++ [pp], xs ++ [v], m3, p3, by rw [List.length_append]; show acc.length + 1 ≤ i + 1; omega, upd_same, (tx.append (.cons xv .nil)).keep kA, ?_, ?_, g5⟩
        · refine ⟨o5.len, g5, o5.sub, fun a z => ?_, fun j w z => ?_, fun j es z => ?_, o5.sep⟩
          · by_cases q : a = D
            · rw [q, upd_same]; exact fun w => nomatch w
            · rw [upd_ne q]; exact o5.al a z
          · obtain ⟨nm, y, y1, y2⟩ := o5.val j w z
            refine ⟨nm, y, y1, ?_⟩
            cases w with
            | py p => exact Da.keep kA y2
            | mine ds => cases nm
            | dct es =>
              obtain ⟨b, kvs, w1, w2, w3, w4⟩ := y2
              exact ⟨b, kvs, w1, w2, kA b _ w2 w3, w4.keep kA⟩
            | dcl es =>
              obtain ⟨b, kvs, od, w1, w2, w3, w4⟩ := y2
              exact ⟨b, kvs, od, w1, w2, kA b _ w2 w3, w4.keep kA⟩
            | brw es =>
              obtain ⟨b, ys, w1, w2, w3, w4, w5⟩ := y2
              exact ⟨b, ys, w1, w2, w3, by rw [upd_ne fun z => o1.good.al b w3 (by rw [z]; exact hD)]; exact w4, w5.keep kA⟩
            | ins C fs =>
              obtain ⟨b, dx, vs, w1, w2, w3, w4⟩ := y2
              exact ⟨b, dx, vs, w1, w2, kA b _ w2 w3, w4.keep kA⟩
            | atom w => exact y2
            | kln => exact y2
            | lsx =>
              obtain ⟨b, ys, w1, w2, w3⟩ := y2
              exact ⟨b, ys, w1, w2, kA b _ w2 w3⟩
            | obj φ =>
              obtain ⟨b, ys, w1, ⟨w2, fφ⟩, w3⟩ := y2
              exact ⟨b, ys, w1, ⟨w2, fφ⟩, kA b _ w2 w3⟩
          · obtain ⟨b, y1, y3, y4⟩ := o5.own j es z
            have ob : ownA σ sl b := wipe_own (e := ⟨sl, nn⟩) ⟨j, es, z, y1⟩
            exact ⟨b, y1, y3.keep kA fun u r => by rw [upd_ne fun q => o1.al D (by rw [← q]; exact o.sub b (.inr ob)) hD]; exact r, y4⟩
        · refine fun a u nn q => ?_
          rw [upd_ne (ne_of_none q hD)]
          exact e4 a u nn (e3 a u nn (ks a u nn (ek a u nn q)))
  · left
    have q : i = its.length := by omega
    subst q
    exact ⟨gv.stop H' _ hM (Nat.le_refl _), k D H' _ nn (iz acc nn hI) (e1.trans ek) gn (fresh_of e1 g1 hD) ⟨xs, hDx, t⟩⟩⟩
end
/-! ## calls -/
def arg : D → D
  | .mine (.lst ds) => .brw ds
  | d => d
def argOk : D → Bool
  | .mine (.lst _) => true
  | .mine _ => false
  | _ => true
def SpF (K : PySem.W.Frag) (pre : List D → Nat → Prop) (post : List D → Nat → D → Nat → Prop) : Sp := fun vs H Q _ =>
  ∃ (c : Cy) (n : Nat) (ds : List D), c.K = K ∧ Good c n H ∧ DXs c c.S0 H vs ds ∧ pre ds n ∧ ∀ (v : V) (H' : Hp) (d : D) (m : Nat), post ds n d m → Ek c H H' → Good c m H' → DX c c.S0 H' v d → Q v H'
section
variable {c : Cy} {e : En} {Φ : D → Nat → Prop}
/-- a callee's context: what the caller keeps apart -/
def Cy.at_ (c : Cy) (A : Addr → Prop) (h : ∀ a, c.k = some a → A a) : Cy := ⟨c.K, c.k, A, h⟩
theorem dx_arg {A : Addr → Prop} {H : Hp} {n : Nat} (a : At c A n H) {v : V} {d : D} (ok : argOk d = true) (x : DX c A H v d) : DX (c.at_ A a.k) A H v (arg d) := by
  cases d with
  | mine w =>
    cases w with
    | lst ds => obtain ⟨b, rfl, nS, hA, xs, r, t⟩ := x; exact ⟨b, xs, rfl, fun z => nS (c.hk b z), hA, r, t⟩
    | _ => cases ok
  | dct ds => exact x
  | dcl ds => exact x
  | py p => exact x
  | brw ds => obtain ⟨b, xs, rfl, nk, hS, r, t⟩ := x; exact ⟨b, xs, rfl, nk, a.s b hS, r, t⟩
  | ins C fs => exact x
  | atom w => exact x
  | kln => exact x
  | lsx => exact x
  | obj φ => exact x
theorem dxs_arg {A : Addr → Prop} {H : Hp} {n : Nat} (a : At c A n H) : ∀ {vs : List V} {ds : List D}, ds.all argOk = true → DXs c A H vs ds → DXs (c.at_ A a.k) A H vs (ds.map arg)
  | [], [], _, _ => True.intro
  | v :: vs, d :: ds, k, ⟨h, t⟩ => by
    rw [List.all_cons, Bool.and_eq_true] at k
    exact ⟨dx_arg a k.1 h, dxs_arg a k.2 t⟩
  | [], _ :: _, _, h => h.elim
  | _ :: _, [], _, h => h.elim
/-- results that a caller may have -/
def outD : D → Bool
  | .mine _ => false
  | .brw _ => false
  | _ => true
theorem dx_out {A : Addr → Prop} {H : Hp} {h : ∀ a, c.k = some a → A a} {v : V} {d : D} (o : outD d = true) (x : DX (c.at_ A h) A H v d) : DX c A H v d := by
  cases d with
  | mine ds => cases o
  | brw ds => cases o
  | dct ds => exact x
  | dcl ds => exact x
  | py p => exact x
  | ins C fs => exact x
  | atom w => exact x
  | kln => exact x
  | lsx => exact x
  | obj φ => exact x
theorem sp_run {K : PySem.W.Frag} {pre : List D → Nat → Prop} {post : List D → Nat → D → Nat → Prop} {A : Addr → Prop} {H : Hp} {n : Nat} {vs : List V} {ds : List D} {E : XK} {Q : VK} (hK : K = c.K) (a : At c A n H) (x : DXs c A H vs ds) (ka : ds.all argOk = true) (hp : pre (ds.map arg) n)
    (hq : ∀ d m, post (ds.map arg) n d m → outD d = true ∧ Φ d m) (k : ∀ v H2 d m, Φ d m → Ek c H H2 → Good c m H2 → DX c A H2 v d → Q v H2) : SpF K pre post vs H Q E := by
  subst hK
  exact ⟨c.at_ A a.k, n, ds.map arg, rfl, ⟨a.al, a.good.kl⟩, dxs_arg a ka x, hp, fun v H' d m q ek g y => k v H' d m (hq d m q).2 ek ⟨fun b z => g.al b (a.s b z), g.kl⟩ (dx_out (hq d m q).1 y)⟩
end
/-! ## defs -/
def Slo.of : List D → List Slo := List.map Slo.val
theorem start_ok {c : Cy} {H : Hp} {n : Nat} {vs : List V} {ds : List D} {N : List Str} (g : Good c n H) (x : DXs c c.S0 H vs ds) (nm : ds.all D.nm = true) : Ok c c.S0 H (L2.start N vs) ⟨Slo.of ds ++ List.replicate (N.length - ds.length) .emp, n⟩ := by
  have hl := x.len
  have noown : ∀ (i : Nat) (es : Ow), (Slo.of ds ++ List.replicate (N.length - ds.length) Slo.emp)[i]? ≠ some (Slo.own es) := fun i es z => by
    by_cases hi : i < ds.length
    · rw [List.getElem?_append_left (by unfold Slo.of; rw [List.length_map]; exact hi)] at z
      unfold Slo.of at z
      rw [List.getElem?_map, List.getElem?_eq_getElem hi] at z
      cases z
    · rw [List.getElem?_append_right (by unfold Slo.of; rw [List.length_map]; omega), List.getElem?_replicate] at z
      split at z <;> cases z
  refine ⟨?_, g, fun a z => ?_, g.al, fun i d z => ?_, fun i es z => absurd z (noown i es), fun i j es fs a z => absurd z (noown i es)⟩
  · unfold L2.start Slo.of
    simp only [List.length_append, List.length_map, List.length_replicate]
    rw [hl]
  · rcases z with z | ⟨i, es, z, _⟩
    · exact z
    · exact absurd z (noown i es)
  · by_cases hi : i < ds.length
    · have z' : (Slo.of ds)[i]? = some (Slo.val d) := by
        rw [← z]
        exact (List.getElem?_append_left (by unfold Slo.of; rw [List.length_map]; exact hi)).symm
      unfold Slo.of at z'
      rw [List.getElem?_map] at z'
      have hd : ds[i]? = some d := by
        cases q : ds[i]? with
        | none => rw [q] at z'; cases z'
        | some u => rw [q] at z'; cases z'; rfl
      have get : ∀ {ws : List V} {us : List D} {i : Nat} {d : D}, DXs c c.S0 H ws us → us[i]? = some d → ∃ v, ws[i]? = some v ∧ DX c c.S0 H v d := by
        intro ws
        induction ws with
        | nil =>
          intro us i d h q
          cases us with
          | nil => simp at q
          | cons _ _ => exact h.elim
        | cons w ws ih =>
          intro us i d h q
          cases us with
          | nil => exact h.elim
          | cons u us =>
            cases i with
            | zero =>
              simp at q
              subst q
              exact ⟨w, rfl, h.1⟩
            | succ i =>
              obtain ⟨v, h1, h2⟩ := ih h.2 (show us[i]? = some d by simpa using q)
              exact ⟨v, by simpa using h1, h2⟩
      obtain ⟨v, h1, h2⟩ := get x hd
      have hm : d.nm = true := List.all_eq_true.mp nm d (List.mem_of_getElem? hd)
      refine ⟨hm, v, ?_, h2⟩
      unfold L2.start
      rw [List.getElem?_append_left (by rw [List.length_map, hl]; exact hi), List.getElem?_map, h1] <;> rfl
    · have z' : (Slo.of ds ++ List.replicate (N.length - ds.length) Slo.emp)[i]? = some (Slo.val d) := z
      rw [List.getElem?_append_right (by unfold Slo.of; rw [List.length_map]; omega), List.getElem?_replicate] at z'
      split at z' <;> cases z'
section
variable {P : Program} {w : World} {K : PySem.W.Frag} {mg : Str → Option Value} {base : Heap}
/-- the reading of a body, told by data -/
theorem body_ok {N : List Str} {pre : List D → Nat → Prop} {post : List D → Nat → D → Nat → Prop} {t : TS} (hnm : ∀ ds n, pre ds n → ds.all D.nm = true)
    (rd : ∀ (c : Cy) (n : Nat) (ds : List D), c.K = K → pre ds n → Ws c t ⟨Slo.of ds ++ List.replicate (N.length - ds.length) .emp, n⟩ ⟨fun e => post ds n (.py .none) e.n, fun d m => post ds n d m, fun _ => False, fun _ => False⟩)
    (vs : List V) (H : Hp) (Q : VK) (E : XK) (h : SpF K pre post vs H Q E) : t { nx := fun _ H' => Q .non H', rt := Q } (L2.start N vs) H := by
  obtain ⟨c, n, ds, hK, g, x, hp, k⟩ := h
  have o := start_ok (N := N) g x (hnm ds n hp)
  have noown : ∀ a, ¬ ownA (L2.start N vs) (Slo.of ds ++ List.replicate (N.length - ds.length) Slo.emp) a := fun a ⟨i, es, z, _⟩ => by
    by_cases hi : i < ds.length
    · rw [List.getElem?_append_left (by unfold Slo.of; rw [List.length_map]; exact hi)] at z
      unfold Slo.of at z
      rw [List.getElem?_map, List.getElem?_eq_getElem hi] at z
      cases z
    · rw [List.getElem?_append_right (by unfold Slo.of; rw [List.length_map]; omega), List.getElem?_replicate] at z
      split at z <;> cases z
  refine (rd c n ds hK hp).run _ _ H o _ (fun σ' A' H' e' q kp _ o' => ?_) (fun v H' d m q kp g' x' => ?_) (fun _ _ _ _ q _ _ _ => q.elim) (fun _ _ _ _ q _ _ _ => q.elim)
  · exact k .non H' _ _ q (fun a u nn z => kp a u (fun y => y.elim nn fun y => noown a y) z) o'.good .non
  · exact k v H' d m q (fun a u nn z => kp a u (fun y => y.elim nn fun y => noown a y) z) g' x'
theorem sp_len {pre : List D → Nat → Prop} {post : List D → Nat → D → Nat → Prop} {m : Nat} (hl : ∀ ds n, pre ds n → ds.length = m) (vs : List V) (H : Hp) (Q : VK) (E : XK) (h : SpF K pre post vs H Q E) : vs.length = m := by
  obtain ⟨c, n, ds, hK, g, x, hp, k⟩ := h
  rw [x.len, hl ds n hp]
end
end Wx

/-! ### part Wt -/
set_option Elab.async false
set_option linter.all false
set_option maxRecDepth 100000
set_option maxHeartbeats 1000000
set_option autoImplicit false
/-! Helpers of the derivations; the rules once more, in the shape that a tactic applies. -/
namespace Wx
open PySem L2
/-! ## a def that stands at a global -/
structure Std (P : Program) (w : World) (K : PySem.W.Frag) (mg : Str → Option Value) (base : Heap) (k : Nat) (x : Str) (ps : List Str) (sp : Sp) : Prop where
  ex : ∃ f fd, FnOk P w K mg base CX0 k f fd ps sp ∧ mg x = some (.ref f) ∧ PySem.W.keepIn K (.ref f) = true ∧ Binds K fd ps []
def GInt (mg : Str → Option Value) (x : Str) (i : Int) : Prop := ∃ t, mg x = some (.int i t)
section
variable {X : Cx} {k : Nat} {x : Str} {ps : List Str} {sp : Sp} {e : Expr} {es : List Expr} {p pos : Pos} {t : TA}
theorem pe_std (F : Std X.prog X.w X.K X.mg X.base k x ps sp) (hr : Room k X.A) (hg : Gl X x) (ha : PA X (e :: es) t) (hdb : (x == ("__debug__" : Str)) = false := by decide)
    (he : starEach (e :: es) X.env = (false, eval e X.env) :: starEach es X.env := by rfl) (hpl : (backTo pos (starEach es X.env)).any (·.1) = false := by rfl) : PE X (.Call (.Name x p) (e :: es) [] pos) (tCall sp [] E0 t) := by
  obtain ⟨f, fd, h1, h2, h3, h4⟩ := F.ex
  exact pe_call h1 hr hg h2 h3 h4 .nil pass0 ha hdb he hpl
theorem pe_gint {i : Int} (h : GInt X.mg x i) (hg : Gl X x) (hd : (x == ("__debug__" : Str)) = false := by decide) : PE X (.Name x pos) (tC (.int i)) := by
  obtain ⟨t, h⟩ := h
  exact pe_glob hg h ⟨t, rfl⟩ hd
theorem room65 {A : Around} (hr : Room k A) : A.units + 65 < cLine := by have := hr.un; omega
theorem room64 {A : Around} (hr : Room k A) : A.units + 64 < cLine := by have := hr.un; omega
def rPOW : R2 := rI (fun i j => 2 ≤ i ∧ 1 ≤ j ∧ i < 2 ^ 600 ∧ j ≤ 60) fun i j => .int (i ^ j.toNat)
theorem opPOW : OpR X (binaryOp .Pow) rPOW := opI fun i j a b s H E hc q => by
  obtain ⟨h1, h2, h3, h4⟩ := hc
  have q1 : ¬(j == 0) = true := by rw [beq_iff_eq]; omega
  have q2 : ¬(i == 0 || i == 1) = true := by rw [Bool.or_eq_true, beq_iff_eq, beq_iff_eq]; omega
  have q3 : ¬(i == -1) = true := by rw [beq_iff_eq]; omega
  have b0 : Builtin.Int.intBits i ≤ 600 := by
    unfold Builtin.Int.intBits
    split
    · omega
    · have : i.natAbs.log2 < 600 := PySem.Flt.log2_lt_of (by decide) (by omega)
      omega
  refine AutoIntOps.pow_4 (by omega) q1 q2 q3 (fun z => ?_) q
  unfold Builtin.Int.intTooBig at z
  have z2 := of_decide_eq_true z
  have e : bitsLine = 134217728 := by decide
  rw [e] at z2
  have m1 : ((Builtin.Int.intBits i : Nat) : Int) * j ≤ 600 * 60 := Int.mul_le_mul (by omega) h4 (by omega) (by omega)
  omega
end

def rISN : R2 := fun x y H Q => y = .non ∧ Q (.bl (decide (x = .non))) H
def rNTN : R2 := fun x y H Q => y = .non ∧ Q (.bl (!decide (x = .non))) H
section
variable {X : Cx}
theorem opISN : OpR X (compareOp .Is) rISN := op_isN
theorem opNTN : OpR X (compareOp .IsNot) rNTN := op_notN
end
/-! ## the rules, the written part told -/
section
variable {X : Cx} {K : PySem.W.Frag}
theorem ixK (h : X.K = K) : IxR X (rIx K) := h ▸ ix_seq
theorem slK (h : X.K = K) : SlR X (rSL K) := h ▸ slSL
theorem addK (h : X.K = K) : OpR X (binaryOp .Add) (rADD K) := h ▸ opADD
theorem inK (h : X.K = K) (hu : X.A.units + 65 < cLine) : OpR X (compareOp .In) (rIN K) := h ▸ opIN hu
theorem niK (h : X.K = K) (hu : X.A.units + 65 < cLine) : OpR X (compareOp .NotIn) (rNI K) := h ▸ opNI hu
theorem eqK (h : X.K = K) (hu : X.A.units + 64 < cLine) : OpR X (compareOp .Eq) (rEqD K) := h ▸ op_eqD hu
theorem neK (h : X.K = K) (hu : X.A.units + 64 < cLine) : OpR X (compareOp .NotEq) (rNeD K) := h ▸ op_neD hu
theorem lenK (h : X.K = K) : CallR X (.builtin "len") (rLEN K) := h ▸ callLEN
theorem isiK (h : X.K = K) : CallR X (.builtin "isinstance") (rIsi K) := h ▸ call_isi
theorem allK (h : X.K = K) (hc : X.calm = true) : CallR X (.builtin "all") (rAll K) := h ▸ cr_all hc
theorem tupK (h : X.K = K) : CallR X (.type "tuple") (rTUPOF K) := h ▸ callTUPOF
theorem truK {a : Expr} {ta : TE} (h : X.K = K) (ha : PE X a ta) (he : ∀ whole, isTrue a X.env whole = (do let v ← whole; standAt a.pos; holding [v] (truthy v))) : PT X a (fun σ H Q => ta σ H fun x H' => ∃ k, TruV K x H' k ∧ Q k H') := h ▸ pt_truth ha he
theorem gtupK {es : List Expr} {k : Nat} {t : TGs} {n : Nat} {pos : Pos} (e : X.K = K) (hc : X.calm = true) (h : PGs X es t) (hn : (assignEach es X.env).length = n := by rfl) (hst : (assignEach es X.env).findIdx? (·.1) = none := by rfl) : PG X (.Tuple es k pos) (gTup K n t) := e ▸ pg_tup hc h hn hst
theorem ilistK {tg l : Expr} {tl : TE} (h : X.K = K) (hl : PE X l tl) : PI X tg l (iList K tl) := h ▸ pi_list hl
theorem itupK {tg l : Expr} {tl : TE} (h : X.K = K) (hl : PE X l tl) : PI X tg l (iTup K tl) := h ▸ pi_tup hl
end
/-! ## marked stores -/
/-- x = a new object that is changed later -/
def tAsgO (te : TE) (g : TG) : TS := tAsg te g
def tParO (i j : Nat) (ta : TA) : TS := tPar i j ta
section
variable {X : Cx}
theorem ps_setO {pos : Pos} {i : Nat} {x : Str} {e : Expr} {te : TE} {pos' : Pos} (hN : X.N.Nodup) (hi : X.N[i]? = some x) (hx : Loc X.env.scope x) (he : PE X e te) (hs : swapsWith e (some (.Name x pos')) pos.line X.env = pure false := by rfl) (hf : X.fn x = true ∨ X.env.scope.names.lookup x = some .local := by first | exact .inl rfl | exact .inr rfl | assumption) :
    PS X (.Assign [.Name x pos'] e pos) (tAsgO te (gName i)) := ps_set hN hi hx he hs hf
theorem ps_asO {st : Stmt} {te : TE} {g : TG} (h : PS X st (tAsg te g)) : PS X st (tAsgO te g) := h
theorem ps_parO {st : Stmt} {i j : Nat} {ta : TA} (h : PS X st (tPar i j ta)) : PS X st (tParO i j ta) := h
end
section
variable {c : Cy} {e : En} {Φ : D → Nat → Prop} {Ψ : Ow → Nat → Prop} {ta tb te : TE} {n : Nat} {d1 d2 : D} {K : PySem.W.Frag} {P : Po}
theorem ws_setO {sl : List Slo} {nn : Nat} {i : Nat} (h : Wn c te ⟨sl, nn⟩ fun w n => P.nx ⟨sl.set i (.own w), n⟩) (hi : i < sl.length := by first | decide | (simp; done)) : Ws c (tAsgO te (gName i)) ⟨sl, nn⟩ P := ws_own h hi
theorem ws_parO {sl : List Slo} {nn : Nat} {i j : Nat} {te2 : TE} (h : Wn c te ⟨sl, nn⟩ fun w n => Wp c te2 ⟨sl, n⟩ fun d m => d.nm = true ∧ P.nx ⟨(sl.set i (.own w)).set j (.val d), m⟩) (hi : i < sl.length) (hj : j < sl.length) (hij : i ≠ j) :
    Ws c (tParO i j (tCons te (tCons te2 tNil))) ⟨sl, nn⟩ P := ws_parN h hi hj hij
/-- xs[::-1] -/
theorem DaL.rev {S : Addr → Prop} {H : Hp} : ∀ {xs : List V} {ds : List PyData}, DaL K S H xs ds → DaL K S H xs.reverse ds.reverse
  | _, _, .nil => .nil
  | _, _, .cons h t => by
    rw [List.reverse_cons, List.reverse_cons]
    exact (DaL.rev t).append (.cons h .nil)
theorem wn_rev {sl : List Slo} {nn : Nat} (hK : K = c.K) (h : Wp c te ⟨sl, nn⟩ fun d n => Ls d fun ds => Ψ (.lst ds.reverse) n) : Wn c (tRevL K te) ⟨sl, nn⟩ Ψ := ⟨fun σ A H o Q k => by
  subst hK
  refine h.run σ A H o _ fun v H1 d n p e1 g1 x => ?_
  obtain ⟨a, xs, ds, rfl, hs, t, q⟩ := ls_of p x
  exact ⟨a, xs, rfl, hs, fun r hr => k r _ _ n q (e1.trans (Ek.new hr)) (g1.new hr) (fresh_of e1 g1 hr) ⟨xs.reverse, upd_same, lay t.rev hr⟩⟩⟩
/-! ## small steps -/
theorem wp_cI {sl : List Slo} {nn : Nat} {i : Int} (q : Φ (.py (.int i)) nn) : Wp c (tC (.int i)) ⟨sl, nn⟩ Φ := wp_c rfl q
theorem wp_cB {sl : List Slo} {nn : Nat} {b : Bool} (q : Φ (.py (.bool b)) nn) : Wp c (tC (.bl b)) ⟨sl, nn⟩ Φ := wp_c rfl q
theorem wp_cS {sl : List Slo} {nn : Nat} {x : Str} (q : Φ (.py (.str x)) nn) : Wp c (tC (.str x)) ⟨sl, nn⟩ Φ := wp_c rfl q
theorem wp_cN {sl : List Slo} {nn : Nat} (q : Φ (.py .none) nn) : Wp c (tC .non) ⟨sl, nn⟩ Φ := wp_c rfl q
theorem id1_mk {i : Int} {k : Int → Prop} (h : k i) : Id1 (.py (.int i)) k := h
theorem id2_mk {i j : Int} {k : Int → Int → Prop} (h : k i j) : Id2 (.py (.int i)) (.py (.int j)) k := h
theorem bd_mk {b : Bool} {k : Bool → Prop} (h : k b) : Bd (.py (.bool b)) k := h
theorem td_bool {b : Bool} {k : Bool → Prop} (h : k b) : Td (.py (.bool b)) k := h
theorem one_mk {d : D} {k : D → Prop} (h : k d) : One [d] k := h
theorem two_mk {d u : D} {k : D → D → Prop} (h : k d u) : Two [d, u] k := h
theorem tp_mk {ds : List PyData} {k : List PyData → Prop} (h : k ds) : Tp (.py (.tuple ds)) k := h
theorem ls_py {ds : List PyData} {k : List PyData → Prop} (h : k ds) : Ls (.py (.list ds)) k := h
theorem ls_own {ds : List PyData} {k : List PyData → Prop} (h : k ds) : Ls (.mine (.lst ds)) k := h
theorem sq_py {ds : List PyData} {k : List PyData → Prop} (h : k ds) : Sq (.py (.list ds)) k := h
theorem sq_own {ds : List PyData} {k : List PyData → Prop} (h : k ds) : Sq (.mine (.lst ds)) k := h
theorem pd_py {p : PyData} {k : PyData → Prop} (h : k p) : Pd (.py p) k := h
theorem pd_own {ds : List PyData} {k : PyData → Prop} (h : k (.list ds)) : Pd (.mine (.lst ds)) k := h
theorem sqp_t {ds : List PyData} {k : List PyData → Prop} (h : k ds) : SqP (.tuple ds) k := h
theorem sqp_l {ds : List PyData} {k : List PyData → Prop} (h : k ds) : SqP (.list ds) k := h
theorem pys_nil {k : List PyData → Prop} (h : k []) : Pys [] k := h
theorem pys_cons {p : PyData} {r : List D} {k : List PyData → Prop} (h : Pys r fun ps => k (p :: ps)) : Pys (.py p :: r) k := h
theorem py1_mk {p : PyData} {k : PyData → Prop} (h : k p) : Py1 (.py p) k := h
theorem lend_tup {ds : List PyData} {k : Int → Prop} (h : k ds.length) : Lend (.py (.tuple ds)) k := h
theorem lend_py {ds : List PyData} {k : Int → Prop} (h : k ds.length) : Lend (.py (.list ds)) k := h
theorem lend_own {ds : List PyData} {k : Int → Prop} (h : k ds.length) : Lend (.mine (.lst ds)) k := h
theorem ixd_tup {ds : List PyData} {i : Int} {k : PyData → Prop} (h : ∃ d, atI ds i = some d ∧ k d) : Ixd (.py (.tuple ds)) (.py (.int i)) k := h
theorem ixd_py {ds : List PyData} {i : Int} {k : PyData → Prop} (h : ∃ d, atI ds i = some d ∧ k d) : Ixd (.py (.list ds)) (.py (.int i)) k := h
theorem ixd_own {ds : List PyData} {i : Int} {k : PyData → Prop} (h : ∃ d, atI ds i = some d ∧ k d) : Ixd (.mine (.lst ds)) (.py (.int i)) k := h
theorem sld_tup {ds : List PyData} {lo hi : Option Int} {k : PyData → Prop} (h : k (.tuple (cutD ds lo hi))) : Sld (.py (.tuple ds)) lo hi k := h
theorem sld_py {ds : List PyData} {lo hi : Option Int} {k : PyData → Prop} (h : k (.list (cutD ds lo hi))) : Sld (.py (.list ds)) lo hi k := h
theorem bint_b {b : Bool} {k : Int → Prop} (h : k (if b then 1 else 0)) : Bint (.py (.bool b)) k := h
theorem rw_subI {i j : Int} (h : Φ (.py (.int (i - j))) n) : Rw c (rI0 fun i j => .int (i - j)) (.py (.int i)) (.py (.int j)) n Φ := rw_i0 (h := h)
theorem rw_ltI {i j : Int} (h : Φ (.py (.bool (decide (i < j)))) n) : Rw c (rI0 fun i j => .bl (decide (i < j))) (.py (.int i)) (.py (.int j)) n Φ := rw_i0 (h := h)
theorem rw_leI {i j : Int} (h : Φ (.py (.bool (decide (i ≤ j)))) n) : Rw c (rI0 fun i j => .bl (decide (i ≤ j))) (.py (.int i)) (.py (.int j)) n Φ := rw_i0 (h := h)
theorem rw_gtI {i j : Int} (h : Φ (.py (.bool (decide (j < i)))) n) : Rw c (rI0 fun i j => .bl (decide (j < i))) (.py (.int i)) (.py (.int j)) n Φ := rw_i0 (h := h)
theorem rw_geI {i j : Int} (h : Φ (.py (.bool (decide (j ≤ i)))) n) : Rw c (rI0 fun i j => .bl (decide (j ≤ i))) (.py (.int i)) (.py (.int j)) n Φ := rw_i0 (h := h)
theorem rw_modI {i j : Int} (hc : j ≠ 0) (h : Φ (.py (.int (i.fmod j))) n) : Rw c (rI (fun _ j => j ≠ 0) fun i j => .int (i.fmod j)) (.py (.int i)) (.py (.int j)) n Φ := rw_i (h := ⟨hc, h⟩)
theorem rw_fdI {i j : Int} (hc : CDivW i j) (h : Φ (.py (.int (i / j))) n) : Rw c (rI CDivW fun i j => .int (i / j)) (.py (.int i)) (.py (.int j)) n Φ := rw_i (h := ⟨hc, h⟩)
theorem rw_powI {i j : Int} (hc : 2 ≤ i ∧ 1 ≤ j ∧ i < 2 ^ 600 ∧ j ≤ 60) (h : Φ (.py (.int (i ^ j.toNat))) n) : Rw c rPOW (.py (.int i)) (.py (.int j)) n Φ := rw_i (C := fun i j => 2 ≤ i ∧ 1 ≤ j ∧ i < 2 ^ 600 ∧ j ≤ 60) (g := fun i j => V.int (i ^ j.toNat)) (h := ⟨hc, h⟩)
theorem rw_aI {i j : Int} (h : Φ (.py (.int (i + j))) n) : Rw c (rADD K) (.py (.int i)) (.py (.int j)) n Φ := rw_addI h
theorem rw_mI {i j : Int} (hc : CMulW i j) (h : Φ (.py (.int (i * j))) n) : Rw c rMUL (.py (.int i)) (.py (.int j)) n Φ := rw_mulI ⟨hc, h⟩
theorem uw_neg {i : Int} (h : Φ (.py (.int (-i))) n) : Uw c (rU fun i => .int (-i)) (.py (.int i)) n Φ := uw_u (h := h)
theorem rw_isNN (h : Φ (.py (.bool true)) n) : Rw c rISN (.py .none) (.py .none) n Φ := ⟨fun A H v1 v2 a x1 x2 Q k => by
  cases Da.non_eq x1
  cases Da.non_eq x2
  exact ⟨rfl, k _ H _ n h Ek.refl a.good (.bl _)⟩⟩
theorem rw_ntNN (h : Φ (.py (.bool false)) n) : Rw c rNTN (.py .none) (.py .none) n Φ := ⟨fun A H v1 v2 a x1 x2 Q k => by
  cases Da.non_eq x1
  cases Da.non_eq x2
  exact ⟨rfl, k _ H _ n h Ek.refl a.good (.bl _)⟩⟩
def noN : PyData → Bool
  | .none => false
  | .dict _ => false
  | _ => true
theorem Da.nn {S : Addr → Prop} {H : Hp} {v : V} {p : PyData} (h : Da K S H v p) (q : noN p = true) : v ≠ .non := by
  cases h <;> first | (intro z; cases z; done) | cases q
/-! ## isinstance, a built-in class -/
def tyN : D → Option String
  | .py .none => some "NoneType"
  | .py (.bool _) => some "bool"
  | .py (.int _) => some "int"
  | .py (.str _) => some "str"
  | .py (.list _) => some "list"
  | .py (.tuple _) => some "tuple"
  | .py (.dict []) => some "dict"
  | .mine (.lst _) => some "list"
  | .brw _ => some "list"
  | _ => none
theorem tyL {H : Hp} {a : Addr} {xs : List V} (h : SqL K H a xs) : TyX K H (.ref a) (.type "list") := by
  rcases h with (h | ⟨o, h⟩) | ⟨o, its, m, hk, hc, _⟩
  · exact .base (.lst h)
  · exact .base (.frz h)
  · exact .kList hk hc
theorem tyT {H : Hp} {a : Addr} {xs : List V} (h : SqT K H a xs) : TyX K H (.ref a) (.type "tuple") := by
  rcases h with (h | ⟨o, h⟩) | ⟨o, its, m, hk, hc, _⟩
  · exact .base (.tup h)
  · exact .fTuple h
  · exact .kTuple hk hc
theorem ty_of {A : Addr → Prop} {H : Hp} {v : V} {d : D} {s : String} (x : DX c A H v d) (h : tyN d = some s) : TyX c.K H v (.type s) := by
  match d, h, x with
  | .py .none, h, x => cases h; cases Da.non_eq x; exact .base .non
  | .py (.bool b), h, x => cases h; cases Da.bl_eq x; exact .base (.bl _)
  | .py (.int i), h, x => cases h; cases Da.int_eq x; exact .base (.int _)
  | .py (.str z), h, x => cases h; cases Da.str_eq x; exact .base (.str _)
  | .py (.list ds), h, x => cases h; obtain ⟨a, xs, rfl, hs, t⟩ := Da.list_at x; exact tyL hs
  | .py (.tuple ds), h, x => cases h; obtain ⟨a, xs, rfl, hs, t⟩ := Da.tuple_at x; exact tyT hs
  | .py (.dict []), h, x =>
    cases h
    have y : Da c.K A H v (.dict []) := x
    cases y with
    | ed n r => exact .base (.dK r)
  | .mine (.lst ds), h, x => cases h; obtain ⟨a, rfl, _, _, xs, hs, t⟩ := x; exact tyL (SqL.of hs)
  | .brw ds, h, x => cases h; obtain ⟨a, xs, rfl, _, _, hs, t⟩ := x; exact tyL (SqL.of hs)
theorem cw_isiB {d : D} {s b : String} {r : Bool} (hK : K = c.K) (h1 : tyN d = some s) (h2 : kitB s b = some r) (h : Φ (.py (.bool r)) n) : Cw c (rIsi K) [d, .atom (.ty b)] n Φ := ⟨fun A H vs a x Q k => by
  subst hK
  match vs, x with
  | [v, w], ⟨x1, x2, _⟩ =>
    have e : w = .ty b := x2
    subst e
    exact ⟨v, .ty b, .type s, .type b, r, rfl, .ty b, ty_of x1 h1, kit_ty h2, k _ H _ n h Ek.refl a.good (.bl _)⟩⟩
/-! ## promises with a ghost -/
def SpX {ι : Type} (K : PySem.W.Frag) (ar : ι → List D) (pre : ι → Nat → Prop) (post : ι → Nat → D → Nat → Prop) : Sp := fun vs H Q E =>
  ∃ x, SpF K (fun ds n => ds = ar x ∧ pre x n) (fun _ n d m => post x n d m) vs H Q E
theorem sx_len {ι : Type} {ar : ι → List D} {pre : ι → Nat → Prop} {post : ι → Nat → D → Nat → Prop} {m : Nat} (hl : ∀ x, (ar x).length = m) (vs : List V) (H : Hp) (Q : VK) (E : XK) (h : SpX K ar pre post vs H Q E) : vs.length = m := by
  obtain ⟨x, h⟩ := h
  exact sp_len (fun ds n q => by rw [q.1]; exact hl x) vs H Q E h
theorem body_x {ι : Type} {N : List Str} {ar : ι → List D} {pre : ι → Nat → Prop} {post : ι → Nat → D → Nat → Prop} {t : TS} (hnm : ∀ x, (ar x).all D.nm = true)
    (rd : ∀ (c : Cy) (n : Nat) (x : ι), c.K = K → pre x n → Ws c t ⟨Slo.of (ar x) ++ List.replicate (N.length - (ar x).length) .emp, n⟩ ⟨fun e => post x n (.py .none) e.n, fun d m => post x n d m, fun _ => False, fun _ => False⟩)
    (vs : List V) (H : Hp) (Q : VK) (E : XK) (h : SpX K ar pre post vs H Q E) : t { nx := fun _ H' => Q .non H', rt := Q } (L2.start N vs) H := by
  obtain ⟨x, h⟩ := h
  exact body_ok (K := K) (pre := fun ds n => ds = ar x ∧ pre x n) (post := fun _ n d m => post x n d m) (fun ds n q => by rw [q.1]; exact hnm x) (fun c n ds hK q => by obtain ⟨rfl, q⟩ := q; exact rd c n x hK q) vs H Q E h
theorem wp_cx {sl : List Slo} {nn : Nat} {ι : Type} {ar : ι → List D} {pre : ι → Nat → Prop} {post : ι → Nat → D → Nat → Prop} {E : XK} {ta : TA} (hK : K = c.K)
    (h : Wa c ta ⟨sl, nn⟩ fun ds n => ds.all argOk = true ∧ ∃ x, ds.map arg = ar x ∧ pre x n ∧ ∀ d m, post x n d m → outD d = true ∧ Φ d m) : Wp c (tCall (SpX K ar pre post) [] E ta) ⟨sl, nn⟩ Φ := ⟨fun σ A H o Q k => by
  refine h.run σ A H o _ fun vs H1 ds n p e1 g1 x => ?_
  have o1 := o.keep e1 g1
  obtain ⟨p1, z, p2, p3, p4⟩ := p
  rw [List.append_nil]
  exact ⟨z, sp_run (K := K) (pre := fun ds n => ds = ar z ∧ pre z n) (post := fun _ n d m => post z n d m) hK o1.at_ x p1 ⟨p2, p3⟩ p4 fun v H2 d m q e2 g2 y => k v H2 d m q (e1.trans e2) g2 y⟩⟩
end
end Wx

/-! ### part Vm -/
set_option Elab.async false
set_option linter.all false
set_option maxRecDepth 100000
set_option maxHeartbeats 1000000
set_option autoImplicit false
/-! The plain law's data: where a cell comes from; the cut. -/
namespace Wx
open PySem L2
inductive Src where
  | inp (p : Int)
  | lit (v : Int)
  deriving DecidableEq
def Src.py : Src → PyData
  | .inp p => .tuple [.str "in", .int p]
  | .lit v => .tuple [.str "lit", .int v]
def pys (l : List Src) : List PyData := l.map Src.py
abbrev srcs (l : List Src) : PyData := .tuple (pys l)
theorem eqv_int (i j : Int) : PyData.eqv (.int i) (.int j) = decide (i = j) := by
  rw [PyData.eqv, Bool.beq_eq_decide_eq]
theorem eqv_src (s t : Src) : PyData.eqv s.py t.py = decide (s = t) := by
  have h1 : ((Str.ofString "in") == (Str.ofString "in")) = true := by decide +kernel
  have h2 : ((Str.ofString "in") == (Str.ofString "lit")) = false := by decide +kernel
  have h3 : ((Str.ofString "lit") == (Str.ofString "in")) = false := by decide +kernel
  have h4 : ((Str.ofString "lit") == (Str.ofString "lit")) = true := by decide +kernel
  cases s <;> cases t <;> simp [Src.py, PyData.eqv, PyData.eqvAll, h1, h2, h3, h4, Bool.beq_eq_decide_eq]
theorem eqvAll_src : ∀ l m : List Src, PyData.eqvAll (pys l) (pys m) = decide (l = m)
  | [], [] => by simp [pys, PyData.eqvAll]
  | s :: l, t :: m => by
    have ih := eqvAll_src l m
    unfold pys at ih ⊢
    rw [List.map_cons, List.map_cons, PyData.eqvAll, ih, eqv_src]
    simp
  | [], _ :: _ => by simp [pys, PyData.eqvAll]
  | _ :: _, [] => by simp [pys, PyData.eqvAll]
theorem eqv_srcs (l m : List Src) : PyData.eqv (srcs l) (srcs m) = decide (l = m) := by rw [PyData.eqv]; exact eqvAll_src l m
theorem mem_src (s : Src) (l : List Src) : Mem s.py (pys l) = decide (s ∈ l) := by
  unfold Mem pys
  rw [List.any_map]
  induction l with
  | nil => simp
  | cons t l ih =>
    rw [List.any_cons, ih]
    simp only [Function.comp, eqv_src, List.mem_cons]
    by_cases h : s = t
    · subst h; simp
    · have h2 : ¬ t = s := fun z => h z.symm
      simp [h, h2]
theorem shp_src (s : Src) : SeqAt.shaped s.py = true := by
  have h1 : PyData.strOk (Str.ofString "in") = true := by decide +kernel
  have h2 : PyData.strOk (Str.ofString "lit") = true := by decide +kernel
  cases s <;> simp [Src.py, SeqAt.shaped, PyData.canLay0, PyData.canLayAll0, PyData.depth, PyData.depthAll, h1, h2]
theorem shpA : ∀ l : List Src, PyData.canLayAll0 (pys l) = true ∧ PyData.depthAll (pys l) ≤ 1
  | [] => ⟨rfl, by simp [pys, PyData.depthAll]⟩
  | s :: l => by
    obtain ⟨h1, h2⟩ := shpA l
    have h3 : s.py.canLay0 = true := SeqAt.canLay_of_shaped (shp_src s)
    have h4 : s.py.depth ≤ 1 := by cases s <;> simp [Src.py, PyData.depth, PyData.depthAll]
    unfold pys at h1 h2 ⊢
    refine ⟨by rw [List.map_cons, PyData.canLayAll0, h3, h1]; rfl, ?_⟩
    rw [List.map_cons, PyData.depthAll]
    omega
theorem shp_srcs (l : List Src) : SeqAt.shaped (srcs l) = true := by
  obtain ⟨h1, h2⟩ := shpA l
  unfold SeqAt.shaped
  rw [Bool.and_eq_true]
  exact ⟨by rw [PyData.canLay0]; exact h1, decide_eq_true (by rw [PyData.depth]; omega)⟩
theorem pys_len (l : List Src) : (pys l).length = l.length := List.length_map _
theorem pys_at {l : List Src} {i : Nat} {s : Src} (h : l[i]? = some s) : atI (pys l) (i : Int) = some s.py := atI_nat (by unfold pys; rw [List.getElem?_map, h] <;> rfl)
theorem pys_item {l : List Src} {i : Nat} {d : D} (h : ((pys l).map D.py)[i]? = some d) : ∃ s, l[i]? = some s ∧ s ∈ l ∧ d = .py s.py := by
  unfold pys at h
  rw [List.getElem?_map, List.getElem?_map] at h
  cases q : l[i]? with
  | none => rw [q] at h; cases h
  | some s => rw [q] at h; cases h; exact ⟨s, rfl, List.mem_of_getElem? q, rfl⟩
theorem pys_drop (l : List Src) (i : Nat) : (pys l).drop i = pys (l.drop i) := by unfold pys; rw [List.map_drop]
theorem pys_app (l m : List Src) : pys l ++ pys m = pys (l ++ m) := by unfold pys; rw [List.map_append]
theorem cut_from {α : Type} (xs : List α) (i : Nat) (h : i ≤ xs.length) : cutD xs (some (i : Int)) none = xs.drop i := by
  unfold cutD
  rw [HT.sIx_nat, HT.sIx_none, Nat.min_eq_left h]
  exact List.take_of_length_le (by rw [List.length_drop]; exact Nat.le_refl _)
def cut : Int → List Src → Int × List Src
  | t, [] => (t, [])
  | t, s :: r => if s = .inp (t - 1) ∧ s ∉ r then cut (t - 1) r else (t, s :: r)

theorem shp_int (i : Int) : SeqAt.shaped (.int i) = true := by simp [SeqAt.shaped, PyData.canLay0, PyData.depth]
theorem shp_nilT : SeqAt.shaped (.tuple []) = true := by simp [SeqAt.shaped, PyData.canLay0, PyData.canLayAll0, PyData.depth, PyData.depthAll]
theorem shp_str {x : Str} (h : PyData.strOk x = true) : SeqAt.shaped (.str x) = true := by simp [SeqAt.shaped, PyData.canLay0, PyData.depth, h]
theorem shp_inp (p : Int) : SeqAt.shaped (.tuple [.str "in", .int p]) = true := shp_src (.inp p)
theorem shp_lit (p : Int) : SeqAt.shaped (.tuple [.str "lit", .int p]) = true := shp_src (.lit p)
theorem eqv_inp (s : Src) (p : Int) : PyData.eqv s.py (.tuple [.str "in", .int p]) = decide (s = .inp p) := eqv_src s (.inp p)
theorem eqv_nil (l : List Src) : PyData.eqv (.tuple (pys l)) (.tuple []) = decide (l = []) := eqv_srcs l []
section
variable {c : Cy} {Φ : D → Nat → Prop} {n : Nat} {K : PySem.W.Frag}
theorem rw_eqI {i j : Int} (hK : K = c.K) (h : Φ (.py (.bool (decide (i = j)))) n) : Rw c (rEqD K) (.py (.int i)) (.py (.int j)) n Φ := rw_eq hK ⟨shp_int _, shp_int _, by rw [eqv_int]; exact h⟩
theorem rw_neI {i j : Int} (hK : K = c.K) (h : Φ (.py (.bool (!decide (i = j)))) n) : Rw c (rNeD K) (.py (.int i)) (.py (.int j)) n Φ := rw_ne hK ⟨shp_int _, shp_int _, by rw [eqv_int]; exact h⟩
theorem rw_eqSt {x y : Str} (hK : K = c.K) (hx : PyData.strOk x = true) (hy : PyData.strOk y = true) (hb : (x == y) = true) (h : Φ (.py (.bool true)) n) : Rw c (rEqD K) (.py (.str x)) (.py (.str y)) n Φ := rw_eq hK ⟨shp_str hx, shp_str hy, by rw [PyData.eqv, hb]; exact h⟩
theorem rw_eqSf {x y : Str} (hK : K = c.K) (hx : PyData.strOk x = true) (hy : PyData.strOk y = true) (hb : (x == y) = false) (h : Φ (.py (.bool false)) n) : Rw c (rEqD K) (.py (.str x)) (.py (.str y)) n Φ := rw_eq hK ⟨shp_str hx, shp_str hy, by rw [PyData.eqv, hb]; exact h⟩
end
end Wx

/-! ### part Vc -/
set_option Elab.async false
set_option linter.all false
set_option maxRecDepth 100000
set_option maxHeartbeats 1000000
set_option autoImplicit false
/-! Own classes in the calculus: attributes, making, properties, methods. -/
namespace Wx
open PySem L2
/-! ## a target o.f -/
def gAtt (K : PySem.W.Frag) (to : TE) (f : Str) : TG := fun v σ H Q => to σ H fun x H1 => ∃ a C dx fs, x = .ref a ∧ H1 a = some (.ins C dx fs) ∧ Cls K C ∧ NoAttr K C f ∧ fs.length < 1000 ∧ Q σ (upd H1 a (.ins C dx (putF f v fs)))
theorem pg_att {X : Cx} {o : Expr} {f : Str} {pos : Pos} {to : TE} (ho : PE X o to) : PG X (.Attribute o f pos) (gAtt X.K to f) := by
  refine ⟨fun pins s σ H v u Q I r h => ?_⟩
  rw [arm_assign_Attribute]
  refine wpAny_bind (wpAny_holding (thn (ho.run pins s σ H _ I h) fun ov s1 ⟨x, H1, I1, r1, a, C, dx, fs, ex, ea, c, n, l, q⟩ => ?_))
  subst ex
  obtain rfl : ov = Value.ref a := r1
  exact wpAny_bind (wpAny_standAt (wpAny_bind (wpAny_holding (setattr_ok I1 ea c n l r fun s3 I3 => wpAny_release ⟨σ, _, I3, q⟩))))
/-! ## making -/
abbrev Cy.ext (c : Cy) (A : Addr → Prop) (x : Addr) (h : ∀ a, c.k = some a → A a) : Cy := ⟨c.K, c.k, fun a => A a ∨ a = x, fun a q => .inl (h a q)⟩
def SpI {ι : Type} (K : PySem.W.Frag) (C : Addr) (ar : ι → List D) (pre : ι → Nat → Prop) (fs : ι → List (Str × PyData)) : Sp := fun vs H Q _ =>
  ∃ (z : ι) (c : Cy) (n : Nat) (x dx : Addr) (args : List V), vs = .ref x :: args ∧ c.K = K ∧ Good c n H ∧ c.S0 x ∧ c.k ≠ some x ∧ H x = some (.ins C dx []) ∧ DXs c c.S0 H args (ar z) ∧ pre z n ∧
    ∀ (H' : Hp) (ws : List (Str × V)), H' x = some (.ins C dx ws) → FsR K c.S0 H' ws (fs z) → (∀ a o, c.k ≠ some a → a ≠ x → H a = some o → H' a = some o) → Good c n H' → Q .non H'
theorem si_len {ι : Type} {K : PySem.W.Frag} {C : Addr} {ar : ι → List D} {pre : ι → Nat → Prop} {fs : ι → List (Str × PyData)} {m : Nat} (hl : ∀ x, (ar x).length = m) (vs : List V) (H : Hp) (Q : VK) (E : XK) (h : SpI K C ar pre fs vs H Q E) : vs.length = m + 1 := by
  obtain ⟨z, c, n, x, dx, args, rfl, _, _, _, _, _, xs, _⟩ := h
  rw [List.length_cons, xs.len, hl z]
/-- code of an __init__: from x without attributes to x with fs -/
structure Wz (c : Cy) (t : TS) (e : En) (x C dx : Addr) (n : Nat) (fs : List (Str × PyData)) : Prop where
  run : ∀ (σ : St) (A : Addr → Prop) (H : Hp), Ok c A H σ e → (∀ a, ¬ ownA σ e.sl a) → H x = some (.ins C dx []) → ∀ Dn : Ends, (∀ (σ' : St) (H' : Hp) (ws : List (Str × V)), H' x = some (.ins C dx ws) → FsR c.K c.S0 H' ws fs → (∀ a o, c.k ≠ some a → a ≠ x → H a = some o → H' a = some o) → Good c n H' → Dn.nx σ' H') → t Dn σ H
section
variable {c : Cy} {sl : List Slo} {nn n : Nat} {x C dx : Addr} {fs : List (Str × PyData)} {t u : TS} {te : TE}
def noOwn (sl : List Slo) : Bool := sl.all fun s => match s with
  | .own _ => false
  | _ => true
theorem no_own {σ : St} {sl : List Slo} (h : noOwn sl = true) (a : Addr) : ¬ ownA σ sl a := fun ⟨i, w, z, _⟩ => by
  have := List.all_eq_true.mp h _ (List.mem_of_getElem? z)
  cases this
theorem wz_seq (hk : c.k ≠ some x) (hx : c.S0 x) (h : Ws c t ⟨sl, nn⟩ ⟨fun e1 => noOwn e1.sl = true ∧ Wz c u e1 x C dx n fs, fun _ _ => False, fun _ => False, fun _ => False⟩) : Wz c (tSeq t u) ⟨sl, nn⟩ x C dx n fs :=
  ⟨fun σ A H o no hH Dn fin => h.run σ A H o { Dn with nx := u Dn } (fun σ1 A1 H1 e1 q kp w o1 => q.2.run σ1 A1 H1 o1 (no_own q.1) (kp x _ (fun z => z.elim hk (no x)) hH) Dn fun σ2 H2 ws r1 r2 r3 r4 => fin σ2 H2 ws r1 r2 (fun a u n1 n2 z => r3 a u n1 n2 (kp a u (fun y => y.elim n1 (no a)) z)) r4)
    (fun _ _ _ _ z _ _ _ => z.elim) (fun _ _ _ _ z _ _ _ => z.elim) (fun _ _ _ _ z _ _ _ => z.elim)⟩
theorem wz_att2 {K : PySem.W.Frag} {f1 f2 : Str} {p q : PyData} (hK : K = c.K) (hk : c.k ≠ some x) (hx : c.S0 x) (h0 : sl[0]? = some (.val (.atom (.ref x)))) (cl : Cls c.K C) (n1 : NoAttr c.K C f1) (n2 : NoAttr c.K C f2) (hne : ∀ v w : V, putF f2 w (putF f1 v []) = [(f1, v), (f2, w)])
    (h : Wp c te ⟨sl, nn⟩ fun d m => d = .py (.tuple [p, q]) ∧ m = n) : Wz c (tAsg te (gTup K 2 (gCons (gAtt K (tVar 0) f1) (gCons (gAtt K (tVar 0) f2) gNil)))) ⟨sl, nn⟩ x C dx n [(f1, p), (f2, q)] := ⟨fun σ A H o no hH Dn fin => by
  subst hK
  obtain ⟨_, v0, s0, e0⟩ := o.val 0 _ h0
  have e0' : v0 = .ref x := e0
  subst e0'
  refine h.run σ A H o _ fun v H1 d m pr e1 g1 xd => ?_
  obtain ⟨rfl, rfl⟩ := pr
  obtain ⟨a, xs, rfl, hs, tl⟩ := Da.tuple_at xd
  cases tl with
  | cons y1 tl =>
    cases tl with
    | cons y2 tl =>
      cases tl
      rename_i v1 v2
      have hx1 : H1 x = some (.ins C dx []) := e1 x _ hk hH
      have xA : A x := o.sub x (.inl hx)
      have pl : (putF f1 v1 ([] : List (Str × V))).length < 1000 := by
        have := length_putF f1 v1 ([] : List (Str × V))
        simp at this
        omega
      refine ⟨a, _, rfl, hs, rfl, v1, [v2], rfl, .ref x, s0, x, C, dx, [], rfl, hx1, cl, n1, by decide, v2, [], rfl, .ref x, s0, x, C, dx, _, rfl, upd_same, cl, n2, pl, rfl, ?_⟩
      rw [hne]
      have kA : Kept A H1 (upd (upd H1 x (.ins C dx (putF f1 v1 []))) x (.ins C dx [(f1, v1), (f2, v2)])) := fun b u nb z => by rw [upd_ne fun w => nb (by rw [w]; exact xA), upd_ne fun w => nb (by rw [w]; exact xA)]; exact z
      refine fin σ _ _ upd_same ⟨rfl, (y1.keep kA).less fun b z => o.sub b (.inl z), rfl, (y2.keep kA).less fun b z => o.sub b (.inl z), True.intro⟩ (fun b u q1 q2 z => ?_) ⟨fun b z => ?_, fun b z => ?_⟩
      · rw [upd_ne q2, upd_ne q2]; exact e1 b u q1 z
      · by_cases w : b = x
        · rw [w, upd_same]; exact fun y => nomatch y
        · rw [upd_ne w, upd_ne w]; exact g1.al b z
      · have w : b ≠ x := fun w => hk (by rw [← w]; exact z)
        rw [upd_ne w, upd_ne w]; exact g1.kl b z⟩
/-- the reading of an __init__ -/
theorem body_i {ι : Type} {K : PySem.W.Frag} {N : List Str} {ar : ι → List D} {pre : ι → Nat → Prop} {fsz : ι → List (Str × PyData)} {t : TS} (hnm : ∀ x, (ar x).all D.nm = true)
    (rd : ∀ (c : Cy) (n : Nat) (z : ι) (x dx : Addr), c.K = K → c.k ≠ some x → c.S0 x → pre z n → Wz c t ⟨Slo.of (.atom (.ref x) :: ar z) ++ List.replicate (N.length - (D.atom (.ref x) :: ar z).length) .emp, n⟩ x C dx n (fsz z))
    (vs : List V) (H : Hp) (Q : VK) (E : XK) (h : SpI K C ar pre fsz vs H Q E) : t { nx := fun _ H' => Q .non H', rt := Q } (L2.start N vs) H := by
  obtain ⟨z, c, n, x, dx, args, rfl, hK, g, hx, hk, hH, xs, hp, k⟩ := h
  have o := start_ok (N := N) (ds := .atom (.ref x) :: ar z) g (vs := .ref x :: args) ⟨rfl, xs⟩ (by rw [List.all_cons, hnm z]; rfl)
  have no : ∀ a, ¬ ownA (L2.start N (.ref x :: args)) (Slo.of (D.atom (.ref x) :: ar z) ++ List.replicate (N.length - (D.atom (.ref x) :: ar z).length) Slo.emp) a := no_own (by
    unfold noOwn
    rw [List.all_append, Bool.and_eq_true]
    constructor
    · unfold Slo.of; rw [List.all_map]; exact List.all_eq_true.mpr fun _ _ => rfl
    · exact List.all_eq_true.mpr fun s hs => by rw [List.eq_of_mem_replicate hs])
  exact (rd c n z x dx hK hk hx hp).run _ _ H o no hH _ fun σ' H' ws r1 r2 r3 r4 => k H' ws r1 (by rw [← hK]; exact r2) r3 r4
theorem wp_make {ι : Type} {K : PySem.W.Frag} {ar : ι → List D} {pre : ι → Nat → Prop} {fsz : ι → List (Str × PyData)} {E : XK} {ta : TA} {Φ : D → Nat → Prop} (hK : K = c.K)
    (h : Wa c ta ⟨sl, nn⟩ fun ds n => ds.all argOk = true ∧ ∃ z, ds.map arg = ar z ∧ pre z n ∧ Φ (.ins C (fsz z)) n) : Wp c (tMake C (SpI K C ar pre fsz) [] E ta) ⟨sl, nn⟩ Φ := ⟨fun σ A H o Q k => by
  subst hK
  refine h.run σ A H o _ fun vs H1 ds n p e1 g1 xs => ?_
  have o1 := o.keep e1 g1
  obtain ⟨p1, z, p2, p3, p4⟩ := p
  intro x dx hx hdx hne
  rw [List.append_nil]
  have e2 : Ek c H1 (upd H1 dx (.own x)) := Ek.new hdx
  have hx2 : (upd H1 dx (.own x)) x = none := by rw [upd_ne (Ne.symm hne)]; exact hx
  have e3 : Ek c (upd H1 dx (.own x)) (upd (upd H1 dx (.own x)) x (.ins C dx [])) := Ek.new hx2
  have g3 : Good c n (upd (upd H1 dx (.own x)) x (.ins C dx [])) := (g1.new hdx).new hx2
  have a1 := o1.at_
  have nAx : ¬ A x := o1.fresh hx
  have kx : c.k ≠ some x := fun q => nAx (a1.k x q)
  have ys := dxs_arg a1 p1 xs
  have apart : ∀ {v : V} {d : D}, DX (c.at_ A a1.k) A H1 v d → DX (c.ext A x a1.k) (fun a => A a ∨ a = x) (upd (upd H1 dx (.own x)) x (.ins C dx [])) v d := fun {v d} y => by
    have kk : Kept A H1 (upd (upd H1 dx (.own x)) x (.ins C dx [])) := fun b u nb q => by rw [upd_ne (ne_of_none q hx), upd_ne (ne_of_none q hdx)]; exact q
    cases d with
    | py p => exact Da.keep (fun b u nb q => kk b u (fun z => nb (.inl z)) q) (Da.apart hx y)
    | mine w => obtain ⟨b, _, n1, n2, _⟩ := y; exact (n1 n2).elim
    | dct ds =>
      obtain ⟨b, kvs, q, m, r, t⟩ := y
      have nb : ¬ (A b ∨ b = x) := fun z => z.elim m fun w => by rw [w, hx] at r; cases r
      exact ⟨b, kvs, q, nb, kk b _ m r, (t.apart hx).keep fun b u nb q => kk b u (fun z => nb (.inl z)) q⟩
    | dcl ds =>
      obtain ⟨b, kvs, od, q, m, r, t⟩ := y
      have nb : ¬ (A b ∨ b = x) := fun z => z.elim m fun w => by rw [w, hx] at r; cases r
      exact ⟨b, kvs, od, q, nb, kk b _ m r, (t.apart hx).keep fun b u nb q => kk b u (fun z => nb (.inl z)) q⟩
    | brw ds => obtain ⟨b, ws, q, m, s, r, t⟩ := y; exact ⟨b, ws, q, m, .inl s, by rw [upd_ne (ne_of_none r hx), upd_ne (ne_of_none r hdx)]; exact r, (DaL.apart hx t).keep fun b u nb q => kk b u (fun z => nb (.inl z)) q⟩
    | ins C fs =>
      obtain ⟨b, dy, ws, q, m, r, t⟩ := y
      have nb : ¬ (A b ∨ b = x) := fun z => z.elim m fun w => by rw [w, hx] at r; cases r
      exact ⟨b, dy, ws, q, nb, kk b _ m r, (t.apart hx).keep fun b u nb q => kk b u (fun z => nb (.inl z)) q⟩
    | atom w => exact y
    | kln => exact y
    | lsx =>
      obtain ⟨b, ws, q, m, r⟩ := y
      have nb : ¬ (A b ∨ b = x) := fun z => z.elim m fun w => by rw [w, hx] at r; cases r
      exact ⟨b, ws, q, nb, kk b _ m r⟩
    | obj φ =>
      obtain ⟨b, ws, q, ⟨m, fφ⟩, r⟩ := y
      have nb : ¬ (A b ∨ b = x) := fun z => z.elim m fun w => by rw [w, hx] at r; cases r
      exact ⟨b, ws, q, ⟨nb, fφ⟩, kk b _ m r⟩
  have all : ∀ {vs : List V} {ds : List D}, DXs (c.at_ A a1.k) A H1 vs ds → DXs (c.ext A x a1.k) (fun a => A a ∨ a = x) (upd (upd H1 dx (.own x)) x (.ins C dx [])) vs ds := by
    intro vs
    induction vs with
    | nil =>
      intro ds h
      cases ds with
      | nil => exact True.intro
      | cons _ _ => exact h.elim
    | cons v vs ih =>
      intro ds h
      cases ds with
      | nil => exact h.elim
      | cons d ds => exact ⟨apart h.1, ih h.2⟩
  refine ⟨z, c.ext A x a1.k, n, x, dx, vs, rfl, rfl, ⟨fun a q => ?_, g3.kl⟩, .inr rfl, kx, upd_same, by rw [← p2]; exact all ys, p3, fun H' ws r1 r2 r3 r4 => ⟨rfl, ?_⟩⟩
  · rcases q with q | q
    · have := a1.al a q
      cases w : H1 a with
      | none => exact absurd w this
      | some u => rw [upd_ne (ne_of_none w hx), upd_ne (ne_of_none w hdx), w]; exact fun y => nomatch y
    · rw [q, upd_same]; exact fun y => nomatch y
  · have ek : Ek c H1 H' := fun b u nb q => r3 b u nb (ne_of_none q hx) (by rw [upd_ne (ne_of_none q hx), upd_ne (ne_of_none q hdx)]; exact q)
    exact k (.ref x) H' _ n p4 (e1.trans ek) ⟨fun b q => r4.al b (.inl (a1.s b q)), r4.kl⟩ ⟨x, dx, ws, rfl, nAx, r1, r2.less fun b q => .inl q⟩⟩
end
end Wx

/-! ### part Vd -/
set_option Elab.async false
set_option linter.all false
set_option maxRecDepth 100000
set_option maxHeartbeats 1000000
set_option autoImplicit false
/-! Own classes: special methods of the text behind len, == and !=; reading, calling. -/
namespace Wx
open PySem L2 PyProof.Rows
/-! ## the operators' rules -/
section
variable {X : Cx} {k : Nat} {C f : Addr} {fd : FuncData} {ps : List Str} {sp : Sp}
end

/-! ## the calculus -/
section
variable {c : Cy} {sl : List Slo} {nn n : Nat} {C : Addr} {fs : List (Str × PyData)} {te : TE} {Φ : D → Nat → Prop} {K : PySem.W.Frag} {d d2 : D}
theorem wp_fld {f : Str} (hK : K = c.K) (h : Wp c te ⟨sl, nn⟩ fun d n => ∃ C fs p, d = .ins C fs ∧ Cls c.K C ∧ NoAttr c.K C f ∧ fs.lookup f = some p ∧ Φ (.py p) n) : Wp c (tFld K te f) ⟨sl, nn⟩ Φ := ⟨fun σ A H o Q k => by
  subst hK
  refine h.run σ A H o _ fun v H1 d n p e1 g1 x => ?_
  obtain ⟨C, fs, q, rfl, cl, na, lk, hq⟩ := p
  obtain ⟨a, dx, ws, rfl, nA, r, t⟩ := x
  obtain ⟨v, lv, y⟩ := t.look lk
  exact ⟨a, C, dx, ws, v, rfl, r, cl, na, lv, k v H1 _ n hq e1 g1 y⟩⟩
/-- a promise at an object and arguments -/
theorem sx_at {ι : Type} {ar : ι → List D} {pre : ι → Nat → Prop} {post : ι → Nat → D → Nat → Prop} {A : Addr → Prop} {H : Hp} {vs : List V} {ds : List D} {E : XK} {Q : VK} (hK : K = c.K) (a : At c A n H) (x : DXs c A H vs ds) (ka : ds.all argOk = true) (z : ι) (p2 : ds.map arg = ar z) (p3 : pre z n)
    (p4 : ∀ d m, post z n d m → outD d = true ∧ Φ d m) (k : ∀ v H2 d m, Φ d m → Ek c H H2 → Good c m H2 → DX c A H2 v d → Q v H2) : SpX K ar pre post vs H Q E :=
  ⟨z, sp_run (K := K) (pre := fun ds n => ds = ar z ∧ pre z n) (post := fun _ n d m => post z n d m) hK a x ka ⟨p2, p3⟩ p4 k⟩
theorem wp_prop {ι : Type} {ar : ι → List D} {pre : ι → Nat → Prop} {post : ι → Nat → D → Nat → Prop} {E : XK} (hK : K = c.K) (h : Wp c te ⟨sl, nn⟩ fun d n => ∃ fs, d = .ins C fs ∧ ∃ z, [D.ins C fs] = ar z ∧ pre z n ∧ ∀ d m, post z n d m → outD d = true ∧ Φ d m) : Wp c (tProp C (SpX K ar pre post) [] E te) ⟨sl, nn⟩ Φ := ⟨fun σ A H o Q k => by
  refine h.run σ A H o _ fun v H1 d n p e1 g1 x => ?_
  obtain ⟨fs, rfl, z, p2, p3, p4⟩ := p
  have o1 := o.keep e1 g1
  have x' := x
  obtain ⟨a, dx, ws, rfl, nA, r, t⟩ := x'
  exact ⟨a, dx, ws, rfl, r, sx_at (ds := [.ins C fs]) hK o1.at_ ⟨x, True.intro⟩ rfl z p2 p3 p4 fun v H2 d m q e2 g2 y => k v H2 d m q (e1.trans e2) g2 y⟩⟩
def Ty2 (c : Cy) (d : D) (t : Value) : Prop := ∀ (A : Addr → Prop) (H : Hp) (v : V), DX c A H v d → TyX c.K H v t
theorem ty2_l : Ty2 c .lsx (.type "list") := fun A H v x => by
  obtain ⟨a, xs, rfl, _, r⟩ := x
  exact .base (.lst r)
/-- what a class must have for isinstance -/
structure KitC (K : PySem.W.Frag) (C : Addr) : Prop where
  cl : Cls K C
  ha : PySem.W.findIn K (.ref C) "__class__" = some (some (.builtin "object.__class__"))
  hn : PySem.W.specialIn K (.builtin "object.__class__") "__get__" = some (some (.builtin "getset_descriptor.__get__"))
  ht : PySem.W.takesIn K (.builtin "object.__class__") = some true
  ob : PySem.W.mroIn K C (.type "object") = some true
  me : PySem.W.kitOne K (.ref C) (.ref C) = some true
  no : ∀ s ∈ ["NoneType", "bool", "int", "str", "list", "tuple"], PySem.W.kitOne K (.type s) (.ref C) = some false ∧ PySem.W.notFirst K C (.type s) = true
theorem ty2_i (k : KitC c.K C) : Ty2 c (.ins C fs) (.ref C) := fun A H v x => by
  obtain ⟨a, dx, ws, rfl, _, r, _⟩ := x
  exact .base (.ins r k.cl k.ha k.hn k.ht k.ob)
theorem cw_isiC {t : Value} {b : Bool} (hK : K = c.K) (h1 : Ty2 c d t) (h2 : PySem.W.kitOne c.K t (.ref C) = some b) (h : Φ (.py (.bool b)) n) : Cw c (rIsi K) [d, .atom (.ref C)] n Φ := ⟨fun A H vs a x Q k => by
  subst hK
  match vs, x with
  | [v, w], ⟨x1, x2, _⟩ =>
    have e : w = .ref C := x2
    subst e
    exact ⟨v, .ref C, t, .ref C, b, rfl, .own C, h1 A H v x1, h2, k _ H _ n h Ek.refl a.good (.bl _)⟩⟩
end
/-! ## the derivations -/
structure StdP (P : Program) (w : World) (K : PySem.W.Frag) (mg : Str → Option Value) (base : Heap) (k : Nat) (C : Addr) (f : Str) (sp : Sp) : Prop where
  ex : ∃ p g fd ps, PropOf K C f p g ∧ FnOk P w K mg base CX0 k g fd ps sp ∧ Binds K fd ps []
structure StdM (P : Program) (w : World) (K : PySem.W.Frag) (mg : Str → Option Value) (base : Heap) (k : Nat) (C : Addr) (m : Str) (sp : Sp) : Prop where
  ex : ∃ g fd ps, Meth K C m g ∧ FnOk P w K mg base CX0 k g fd ps sp ∧ Binds K fd ps []
structure StdI (P : Program) (w : World) (K : PySem.W.Frag) (mg : Str → Option Value) (base : Heap) (k : Nat) (C : Addr) (sp : Sp) : Prop where
  ex : ∃ f fd ps, Mk K C f ∧ FnOk P w K mg base CX0 k f fd ps sp ∧ Binds K fd ps []
section
variable {X : Cx} {k : Nat} {C : Addr} {sp : Sp} {e o : Expr} {es : List Expr} {pos apos p : Pos} {ta : TE} {t : TA} {x f m : Str}
theorem pe_propS (F : StdP X.prog X.w X.K X.mg X.base k C f sp) (c : Cls X.K C) (hr : Room (k + 1) X.A) (he : PE X e ta) (hab : attributeBase e f X.env (eval e X.env) = eval e X.env) : PE X (.Attribute e f pos) (tProp C sp [] E0 ta) := by
  obtain ⟨p, g, fd, ps, h1, h2, h3⟩ := F.ex
  exact pe_prop he c h1 h2 hr h3 .nil pass0 hab
theorem pe_makeS (F : StdI X.prog X.w X.K X.mg X.base k C sp) (hm : X.mg x = some (.ref C)) (hr : Room (k + 1) X.A) (hg : Gl X x) (ha : PA X (e :: es) t) (hdb : (x == ("__debug__" : Str)) = false := by decide)
    (he : starEach (e :: es) X.env = (false, eval e X.env) :: starEach es X.env := by rfl) (hpl : (backTo pos (starEach es X.env)).any (·.1) = false := by rfl) : PE X (.Call (.Name x p) (e :: es) [] pos) (tMake C sp [] E0 t) := by
  obtain ⟨f, fd, ps, h1, h2, h3⟩ := F.ex
  exact pe_make h1 h2 hr hg hm h3 .nil pass0 ha hdb he hpl
end
end Wx

/-! ### part Ve -/
set_option Elab.async false
set_option linter.all false
set_option maxRecDepth 100000
set_option maxHeartbeats 1000000
set_option autoImplicit false
/-! Own classes: + by an own __add__, calls by an own __call__. -/
namespace Wx
open PySem L2 PyProof.Rows
section
variable {X : Cx} {k : Nat} {C f : Addr} {fd : FuncData} {ps : List Str} {sp : Sp}
end
section
variable {c : Cy} {sl : List Slo} {nn n : Nat} {C : Addr} {fs gs : List (Str × PyData)} {te : TE} {ta : TA} {Φ : D → Nat → Prop} {K : PySem.W.Frag}
end

section
variable {c : Cy} {sl : List Slo} {nn n : Nat} {te : TE} {t : TA} {K : PySem.W.Frag}
theorem DXs.app {A : Addr → Prop} {H : Hp} : ∀ {xs ys : List V} {ds es : List D}, DXs c A H xs ds → DXs c A H ys es → DXs c A H (xs ++ ys) (ds ++ es)
  | [], _, [], _, _, h => h
  | _ :: _, _, _ :: _, _, ⟨h, t⟩, u => ⟨h, DXs.app t u⟩
  | [], _, _ :: _, _, h, _ => h.elim
  | _ :: _, _, [], _, h, _ => h.elim
end

section
variable {c : Cy} {sl : List Slo} {nn : Nat} {te : TE} {K : PySem.W.Frag} {P : Po}
def Tp2 (d : D) (k : PyData → PyData → Prop) : Prop := match d with
  | .py (.tuple [p, q]) => k p q
  | _ => False
theorem tp2_mk {p q : PyData} {k : PyData → PyData → Prop} (h : k p q) : Tp2 (.py (.tuple [p, q])) k := h
theorem ws_pair2 {i j : Nat} (hK : K = c.K) (h : Wp c te ⟨sl, nn⟩ fun d n => Tp2 d fun p q => P.nx ⟨(sl.set i (.val (.py p))).set j (.val (.py q)), n⟩) (hi : i < sl.length) (hj : j < sl.length) : Ws c (tAsg te (gTup K 2 (gCons (gName i) (gCons (gName j) gNil)))) ⟨sl, nn⟩ P := by
  refine ws_asg [i, j] (h.mono fun d n x => ?_)
  match d, x with
  | .py (.tuple [p, q]), x => exact wg_pair hK ⟨p, q, rfl, wg_name ⟨rfl, wg_name ⟨rfl, x⟩ (by show j < (sl.set i _).length; rw [List.length_set]; exact hj) (by simp)⟩ hi (by simp)⟩
end
end Wx

/-! ### part V1 -/
set_option Elab.async false
set_option linter.all false
set_option maxRecDepth 100000
set_option maxHeartbeats 1000000
set_option autoImplicit false
namespace Wx
open PySem L2

abbrev FnP (K : PySem.W.Frag) (x qual : Str) (st : Stmt) (f : Addr) (fd : FuncData) : Prop := FunD K x qual (defArgs st) (defBody st) (defScope st) [] [] f fd
theorem bt_int : bootBuiltins "int" = some (.type "int") := by decide +kernel
theorem bt_bool : bootBuiltins "bool" = some (.type "bool") := by decide +kernel
theorem bt_str : bootBuiltins "str" = some (.type "str") := by decide +kernel
theorem bt_tuple : bootBuiltins "tuple" = some (.type "tuple") := by decide +kernel
theorem bt_isinstance : bootBuiltins "isinstance" = some (.builtin "isinstance") := by decide +kernel
theorem bt_max : bootBuiltins "max" = some (.builtin "max") := by decide +kernel
theorem bt_min : bootBuiltins "min" = some (.builtin "min") := by decide +kernel
theorem bt_all : bootBuiltins "all" = some (.builtin "all") := by decide +kernel
theorem bt_repr : bootBuiltins "repr" = some (.builtin "repr") := by decide +kernel
section
variable {P : Program} {w : World} {K : PySem.W.Frag} {mg : Str → Option Value} {base : Heap} {f : Addr} {fd : FuncData}
/-! ## is_int -/
abbrev sp_is_int (K : PySem.W.Frag) : Sp := SpX (ι := Int) K (fun i => [.py (.int i)]) (fun _ _ => True) fun _ n d m => d = .py (.bool true) ∧ m = n
theorem ln_is_int (i : Int) : [D.py (.int i)].length = 1 := rfl
theorem nm_is_int (i : Int) : [D.py (.int i)].all D.nm = true := rfl
theorem sc_is_int : FnScope ["value"] ["value"] (defScope (top 38)) := ⟨rfl, rfl, rfl, by decide +kernel, rfl, by decide +kernel, by decide +kernel⟩
theorem ok_is_int (F : FnP K "is_int" "is_int" (top 38) f fd) (g_isinstance : mg "isinstance" = none) (g_int : mg "int" = none) (g_bool : mg "bool" = none) : FnOk P w K mg base CX0 1 f fd ["value"] (sp_is_int K) := by
  refine F.ok sc_is_int (sx_len ln_is_int) (fun cdv A outer s H vs Q E hr h => ?_)
  have nd := sc_is_int.nd
  refine ⟨_, PSs.nox (pss_one (ps_ret (pe_and (pe_callB (isiK (K := K) rfl) rfl g_isinstance bt_isinstance (pa_cons (pv 0) (pa_cons (pe_bltn (v := .ty "int") rfl g_int bt_int rfl) pa_nil))) (pe_one (pe_not (pe_callB (isiK (K := K) rfl) rfl g_isinstance bt_isinstance (pa_cons (pv 0) (pa_cons (pe_bltn (v := .ty "bool") rfl g_bool bt_bool rfl) pa_nil)))))))), ?_⟩
  refine body_x nm_is_int ?_ vs H Q E h
  clear h hr
  intro c n x hK hp
  (subst hK)
  try clear g_isinstance g_int g_bool F
  walk_at "WK"
  refine ⟨fun _ => ?_, fun h => nomatch h⟩
  walk_at "WK"
  trivial
/-! ## in_range -/
abbrev sp_in_range (K : PySem.W.Frag) : Sp := SpX (ι := Int × Int × Int) K (fun x => [.py (.int x.1), .py (.int x.2.1), .py (.int x.2.2)]) (fun _ _ => True) fun x n d m => d = .py (.bool (decide (x.2.1 ≤ x.1 ∧ x.1 ≤ x.2.2))) ∧ m = n
theorem ln_in_range (x : Int × Int × Int) : [D.py (.int x.1), .py (.int x.2.1), .py (.int x.2.2)].length = 3 := rfl
theorem nm_in_range (x : Int × Int × Int) : [D.py (.int x.1), .py (.int x.2.1), .py (.int x.2.2)].all D.nm = true := rfl
theorem sc_in_range : FnScope ["value", "low", "high"] ["value", "low", "high"] (defScope (top 39)) := ⟨rfl, rfl, rfl, by decide +kernel, rfl, by decide +kernel, by decide +kernel⟩
theorem ok_in_range (F : FnP K "in_range" "in_range" (top 39) f fd) (S_is_int : Std P w K mg base 1 "is_int" ["value"] (sp_is_int K)) : FnOk P w K mg base CX0 2 f fd ["value", "low", "high"] (sp_in_range K) := by
  refine F.ok sc_in_range (sx_len ln_in_range) (fun cdv A outer s H vs Q E hr h => ?_)
  have nd := sc_in_range.nd
  refine ⟨_, PSs.nox (pss_one (ps_ret (pe_and (pe_std S_is_int hr rfl (pa_cons (pv 0) (pa_nil))) (pe_one (pe_chain op_le op_le (pv 1) (pv 0) (pv 2)))))), ?_⟩
  refine body_x nm_in_range ?_ vs H Q E h
  clear h hr
  intro c n x hK hp
  (subst hK)
  try clear S_is_int F
  walk_at "WK"
  refine ⟨x.1, rfl, trivial, ?_⟩
  rintro d m ⟨rfl, rfl⟩
  refine ⟨rfl, ?_⟩
  walk_at "WK"
  refine ⟨fun _ => ?_, fun h => nomatch h⟩
  walk_at "WK"
  refine ⟨fun h1 => ?_, fun h1 => ?_⟩
  · walk_at "WK"
    have h2 := of_decide_eq_true h1
    exact ⟨by simp [frz, h2], rfl⟩
  · have h2 := of_decide_eq_false h1
    exact ⟨by simp [frz, h2], rfl⟩
/-! ## is_constant -/
abbrev sp_is_constant (K : PySem.W.Frag) : Sp := SpX (ι := Int) K (fun x => [.py (.int x)]) (fun _ _ => True) fun x n d m => d = .py (.bool (decide (-(10 ^ 30) ≤ x ∧ x ≤ 10 ^ 30))) ∧ m = n
theorem ln_is_constant (x : Int) : [D.py (.int x)].length = 1 := rfl
theorem nm_is_constant (x : Int) : [D.py (.int x)].all D.nm = true := rfl
theorem sc_is_constant : FnScope ["value"] ["value"] (defScope (top 40)) := ⟨rfl, rfl, rfl, by decide +kernel, rfl, by decide +kernel, by decide +kernel⟩
theorem ok_is_constant (F : FnP K "is_constant" "is_constant" (top 40) f fd) (S_in_range : Std P w K mg base 2 "in_range" ["value", "low", "high"] (sp_in_range K)) (i_GREATEST : GInt mg "GREATEST" (10 ^ 30)) : FnOk P w K mg base CX0 3 f fd ["value"] (sp_is_constant K) := by
  refine F.ok sc_is_constant (sx_len ln_is_constant) (fun cdv A outer s H vs Q E hr h => ?_)
  have nd := sc_is_constant.nd
  refine ⟨_, PSs.nox (pss_one (ps_ret (pe_std S_in_range hr rfl (pa_cons (pv 0) (pa_cons (pe_un un_neg (pe_gint i_GREATEST rfl)) (pa_cons (pe_gint i_GREATEST rfl) (pa_nil))))))), ?_⟩
  refine body_x nm_is_constant ?_ vs H Q E h
  clear h hr
  intro c n x hK hp
  (subst hK)
  try clear S_in_range i_GREATEST F
  walk_at "WK"
  refine ⟨(x, -(10 ^ 30), 10 ^ 30), rfl, trivial, ?_⟩
  rintro d m ⟨rfl, rfl⟩
  exact ⟨rfl, rfl, rfl⟩
/-! ## cut_pair -/
abbrev sp_cut_pair (K : PySem.W.Frag) : Sp := SpX (ι := Int × List Src) K (fun x => [.py (.int x.1), .py (srcs x.2)]) (fun _ _ => True) fun x n d m => d = .py (.tuple [.int (cut x.1 x.2).1, srcs (cut x.1 x.2).2]) ∧ m = n
theorem ln_cut_pair (x : Int × List Src) : [D.py (.int x.1), .py (srcs x.2)].length = 2 := rfl
theorem nm_cut_pair (x : Int × List Src) : [D.py (.int x.1), .py (srcs x.2)].all D.nm = true := rfl
theorem sc_cut_pair : FnScope ["taken", "left", "lowest"] ["taken", "left"] (defScope (top 65)) := ⟨rfl, rfl, rfl, by decide +kernel, rfl, by decide +kernel, by decide +kernel⟩
theorem ok_cut_pair (F : FnP K "cut_pair" "cut_pair" (top 65) f fd) (g_len : mg "len" = none) : FnOk P w K mg base CX0 1 f fd ["taken", "left"] (sp_cut_pair K) := by
  refine F.ok sc_cut_pair (sx_len ln_cut_pair) (fun cdv A outer s H vs Q E hr h => ?_)
  have nd := sc_cut_pair.nd
  refine ⟨_, PSs.nox (pss_cons (ps_set (i := 2) nd rfl (Or.inl rfl) (pe_int))
 (pss_cons (ps_while PassesOwn.never (PW.pt (pw_and (pt_cmpR op_lt (pv 2) (pe_callB (lenK (K := K) rfl) rfl g_len PySem.boot_len (pa_cons (pv 1) (pa_nil))) (nomark _)) (pw_and (pt_cmpR (eqK (K := K) rfl (room64 hr)) (pe_ix (ixK (K := K) rfl) (pv 1) (pv 2) (fun _ _ => rfl)) (pe_tup (pa_cons (pe_str) (pa_cons (pe_op op_sub (pv 0) (pe_int)) (pa_nil)))) (nomark _)) (pw_and1 (pt_cmpR (niK (K := K) rfl (room65 hr)) (pe_ix (ixK (K := K) rfl) (pv 1) (pv 2) (fun _ _ => rfl)) (pe_slice (slK (K := K) rfl) (pv 1) (po_some (pe_op (addK (K := K) rfl) (pv 2) (pe_int))) po_none) (by rfl)))))) (pss_one (ps_par (i := 2) (j := 0) rfl nd rfl rfl (by decide) rfl rfl (pa_cons (pe_op (addK (K := K) rfl) (pv 2) (pe_int)) (pa_cons (pe_op op_sub (pv 0) (pe_int)) (pa_nil))) rfl)))
 (pss_one (ps_ret (pe_tup (pa_cons (pv 0) (pa_cons (pe_slice (slK (K := K) rfl) (pv 1) (po_some (pv 2)) po_none) (pa_nil)))))))), ?_⟩
  refine body_x nm_cut_pair ?_ vs H Q E h
  clear h hr
  intro c n x hK hp
  (subst hK)
  try clear g_len F
  obtain ⟨t, l⟩ := x
  walk_at "WK"
  refine ws_while (fun m e1 => ∃ (ti : Int) (lo : Nat), lo ≤ l.length ∧ m = l.length - lo ∧ cut t l = cut ti (l.drop lo) ∧ e1 = ⟨[.val (.py (.int ti)), .val (.py (srcs l)), .val (.py (.int lo))], n⟩) ⟨_, t, 0, Nat.zero_le _, rfl, rfl, rfl⟩ ?_
  rintro m e1 ⟨ti, lo, hlo, rfl, hc, rfl⟩
  have fin : cut ti (l.drop lo) = (ti, l.drop lo) → Ws c (tRet (tTup (tCons (tVar 0) (tCons (tSl (rSL c.K) (tVar 1) (tPart (tVar 2)) tNoPart) tNil)))) ⟨[.val (.py (.int ti)), .val (.py (srcs l)), .val (.py (.int lo))], n⟩ ⟨fun e => D.py .none = .py (.tuple [.int (cut t l).1, srcs (cut t l).2]) ∧ e.n = n, fun d m => d = .py (.tuple [.int (cut t l).1, srcs (cut t l).2]) ∧ m = n, fun _ => False, fun _ => False⟩ := fun q => by
    walk_at "WK"
    refine ⟨?_, rfl⟩
    rw [cut_from _ _ (by rw [pys_len]; exact hlo), hc, q, pys_drop]
    rfl
  walk_at "WK"
  rw [pys_len]
  refine ⟨fun h1 => ?_, fun h1 => ?_⟩
  · have h1' : lo < l.length := by have := of_decide_eq_true h1; omega
    have hd : l.drop lo = l[lo] :: l.drop (lo + 1) := List.drop_eq_getElem_cons h1'
    walk_at "WK"
    refine ⟨l[lo].py, pys_at (by simp [h1']), ?_⟩
    walk_at "WK"
    rw [eqv_inp]
    walk_at "WK"
    refine ⟨fun h2 => ?_, fun h2 => ?_⟩
    · walk_at "WK"
      refine ⟨l[lo].py, pys_at (by simp [h1']), ?_⟩
      walk_at "WK"
      rw [show ((lo : Int) + 1) = ((lo + 1 : Nat) : Int) by omega, cut_from _ _ (by rw [pys_len]; exact h1'), pys_drop]
      refine ⟨shp_srcs _, ?_⟩
      rw [mem_src]
      walk_at "WK"
      have h2' := of_decide_eq_true h2
      refine ⟨fun h3 => ?_, fun h3 => ?_⟩
      · have h3' : ¬ l[lo] ∈ l.drop (lo + 1) := by simpa using h3
        walk_at "WK"
        refine ⟨l.length - (lo + 1), by omega, ti - 1, lo + 1, h1', rfl, ?_, ?_⟩
        · rw [hc, hd, cut, if_pos ⟨h2', h3'⟩]
        · rw [show ((lo : Int) + 1) = ((lo + 1 : Nat) : Int) by omega]; rfl
      · have h3' : l[lo] ∈ l.drop (lo + 1) := by simpa using h3
        exact fin (by rw [hd, cut, if_neg fun z => z.2 h3'])
    · have h2' := of_decide_eq_false h2
      exact ⟨fun z => (nomatch z), fun _ => fin (by rw [hd, cut, if_neg fun z => h2' z.1])⟩
  · have h1' : ¬ lo < l.length := by have := of_decide_eq_false h1; omega
    exact ⟨fun z => (nomatch z), fun _ => fin (by rw [List.drop_of_length_le (by omega), cut])⟩
end
end Wx

/-! ### part V2 -/
set_option Elab.async false
set_option linter.all false
set_option maxRecDepth 100000
set_option maxHeartbeats 1000000
set_option autoImplicit false
namespace Wx
open PySem L2

section
variable {P : Program} {w : World} {K : PySem.W.Frag} {mg : Str → Option Value} {base : Heap} {f : Addr} {fd : FuncData}
/-! ## the source at a depth -/
def srcAt (t : Int) (l : List Src) (d : Int) : Src := if d < l.length then (l[((l.length : Int) - 1 - d).toNat]?).getD (.inp 0) else .inp (d + t - l.length)
theorem srcAt_py {t d : Int} {l : List Src} (h0 : 0 ≤ d) (h : d < l.length) : atI (pys l) ((l.length : Int) - 1 - d) = some (srcAt t l d).py := by
  have h2 : ((l.length : Int) - 1 - d).toNat < l.length := by omega
  have h3 : ((l.length : Int) - 1 - d) = ((((l.length : Int) - 1 - d).toNat : Nat) : Int) := by omega
  rw [h3]
  unfold srcAt
  rw [if_pos h, List.getElem?_eq_getElem h2, Option.getD_some]
  exact pys_at (by rw [List.getElem?_eq_getElem h2])
/-! ## the law's own -/
abbrev sp__law_cut (K : PySem.W.Frag) : Sp := SpX (ι := Int × List Src) K (fun x => [.py (.int x.1), .py (srcs x.2)]) (fun _ _ => True) fun x n d m => d = .py (.tuple [.int (cut x.1 x.2).1, srcs (cut x.1 x.2).2]) ∧ m = n
theorem ln__law_cut (x : Int × List Src) : [D.py (.int x.1), .py (srcs x.2)].length = 2 := rfl
theorem nm__law_cut (x : Int × List Src) : [D.py (.int x.1), .py (srcs x.2)].all D.nm = true := rfl
theorem sc__law_cut : FnScope ["taken_here", "left_here"] ["taken_here", "left_here"] (defScope (top 86)) := ⟨rfl, rfl, rfl, by decide +kernel, rfl, by decide +kernel, by decide +kernel⟩
theorem ok__law_cut (F : FnP K "_law_cut" "_law_cut" (top 86) f fd)  : FnOk P w K mg base CX0 1 f fd ["taken_here", "left_here"] (sp__law_cut K) := by
  refine F.ok sc__law_cut (sx_len ln__law_cut) (fun cdv A outer s H vs Q E hr h => ?_)
  have nd := sc__law_cut.nd
  refine ⟨_, PSs.nox (pss_cons (ps_while PassesOwn.never (PW.pt (pw_and (pt_cmpR (neK (K := K) rfl (room64 hr)) (pv 1) (pe_tup (pa_nil)) (nomark _)) (pw_and (pt_cmpR (eqK (K := K) rfl (room64 hr)) (pe_ix (ixK (K := K) rfl) (pv 1) (pe_int) (fun _ _ => rfl)) (pe_tup (pa_cons (pe_str) (pa_cons (pe_op op_sub (pv 0) (pe_int)) (pa_nil)))) (nomark _)) (pw_and1 (pt_cmpR (niK (K := K) rfl (room65 hr)) (pe_ix (ixK (K := K) rfl) (pv 1) (pe_int) (fun _ _ => rfl)) (pe_slice (slK (K := K) rfl) (pv 1) (po_some (pe_int)) po_none) (by rfl)))))) (pss_one (ps_par (i := 0) (j := 1) rfl nd rfl rfl (by decide) rfl rfl (pa_cons (pe_op op_sub (pv 0) (pe_int)) (pa_cons (pe_slice (slK (K := K) rfl) (pv 1) (po_some (pe_int)) po_none) (pa_nil))) rfl)))
 (pss_one (ps_ret (pe_tup (pa_cons (pv 0) (pa_cons (pv 1) (pa_nil))))))), ?_⟩
  refine body_x nm__law_cut ?_ vs H Q E h
  clear h hr
  intro c n x hK hp
  (subst hK)
  try clear F
  obtain ⟨t, l⟩ := x
  walk_at "WK"
  refine ws_while (fun m e1 => ∃ (ti : Int) (r : List Src), m = r.length ∧ cut t l = cut ti r ∧ e1 = ⟨[.val (.py (.int ti)), .val (.py (srcs r))], n⟩) ⟨_, t, l, rfl, rfl, rfl⟩ ?_
  rintro m e1 ⟨ti, r, rfl, hc, rfl⟩
  have fin : cut ti r = (ti, r) → Ws c (tRet (tTup (tCons (tVar 0) (tCons (tVar 1) tNil)))) ⟨[.val (.py (.int ti)), .val (.py (srcs r))], n⟩ ⟨fun e => D.py .none = .py (.tuple [.int (cut t l).1, srcs (cut t l).2]) ∧ e.n = n, fun d m => d = .py (.tuple [.int (cut t l).1, srcs (cut t l).2]) ∧ m = n, fun _ => False, fun _ => False⟩ := fun q => by
    walk_at "WK"
    refine ⟨?_, rfl⟩
    rw [hc, q]
    rfl
  walk_at "WK"
  rw [eqv_nil]
  walk_at "WK"
  refine ⟨fun h1 => ?_, fun h1 => ?_⟩
  · cases r with
    | nil => simp at h1
    | cons s r =>
      walk_at "WK"
      refine ⟨s.py, pys_at (l := s :: r) (i := 0) rfl, ?_⟩
      walk_at "WK"
      rw [eqv_inp]
      walk_at "WK"
      refine ⟨fun h2 => ?_, fun h2 => ?_⟩
      · walk_at "WK"
        refine ⟨s.py, pys_at (l := s :: r) (i := 0) rfl, ?_⟩
        walk_at "WK"
        rw [show (1 : Int) = ((1 : Nat) : Int) from rfl, cut_from _ _ (by rw [pys_len]; simp), pys_drop]
        refine ⟨shp_srcs _, ?_⟩
        rw [mem_src]
        walk_at "WK"
        have h2' := of_decide_eq_true h2
        refine ⟨fun h3 => ?_, fun h3 => ?_⟩
        · have h3' : ¬ s ∈ r := by simpa using h3
          walk_at "WK"
          refine ⟨r.length, by simp, ti - 1, r, rfl, ?_, ?_⟩
          · rw [hc, cut, if_pos ⟨h2', h3'⟩]
          · rw [show (1 : Int) = ((1 : Nat) : Int) from rfl, cut_from _ _ (by rw [pys_len]; simp), pys_drop]; rfl
        · have h3' : s ∈ r := by simpa using h3
          exact fin (by rw [cut, if_neg fun z => z.2 h3'])
      · have h2' := of_decide_eq_false h2
        exact ⟨fun z => (nomatch z), fun _ => fin (by rw [cut, if_neg fun z => h2' z.1])⟩
  · cases r with
    | nil => exact ⟨fun z => (nomatch z), fun _ => fin rfl⟩
    | cons s r => simp at h1
end
end Wx

/-! ### part V3 -/
set_option Elab.async false
set_option linter.all false
set_option maxRecDepth 100000
set_option maxHeartbeats 1000000
set_option autoImplicit false
namespace Wx
open PySem L2

/-! ## the draws -/
def Vl (te : TE) (σ : St) (H : Hp) (v : V) : Prop := ∀ Q : VK, Q v H → te σ H Q
theorem vl_c {σ : St} {H : Hp} {v : V} : Vl (tC v) σ H v := fun _ q => q
theorem vl_v {σ : St} {H : Hp} {i : Nat} {v : V} (h : σ[i]? = some (some v)) : Vl (tVar i) σ H v := fun _ q => ⟨v, h, q⟩
theorem vl_op {σ : St} {H : Hp} {r : R2} {ta tb : TE} {x y z : V} (a : Vl ta σ H x) (b : Vl tb σ H y) (h : ∀ Q : VK, Q z H → r x y H Q) : Vl (tOp r ta tb) σ H z := fun Q q => a _ (b _ (h Q q))
theorem vl_i0 {σ : St} {H : Hp} {g : Int → Int → V} {ta tb : TE} {i j : Int} (a : Vl ta σ H (.int i)) (b : Vl tb σ H (.int j)) : Vl (tOp (rI0 g) ta tb) σ H (g i j) := vl_op a b fun Q q => ⟨i, j, rfl, rfl, q⟩
theorem vl_i {σ : St} {H : Hp} {C : Int → Int → Prop} {g : Int → Int → V} {ta tb : TE} {i j : Int} (a : Vl ta σ H (.int i)) (b : Vl tb σ H (.int j)) (c : C i j) : Vl (tOp (rI C g) ta tb) σ H (g i j) := vl_op a b fun Q q => ⟨i, j, rfl, rfl, c, q⟩
theorem vl_add {K : PySem.W.Frag} {σ : St} {H : Hp} {ta tb : TE} {i j : Int} (a : Vl ta σ H (.int i)) (b : Vl tb σ H (.int j)) : Vl (tOp (rADD K) ta tb) σ H (.int (i + j)) := vl_op a b fun Q q => .inl ⟨i, j, rfl, rfl, q⟩
theorem vl_mul {σ : St} {H : Hp} {ta tb : TE} {i j : Int} (a : Vl ta σ H (.int i)) (b : Vl tb σ H (.int j)) (c : CMulW i j) : Vl (tOp rMUL ta tb) σ H (.int (i * j)) := vl_op a b fun Q q => .inl ⟨i, j, rfl, rfl, c, q⟩
theorem vl_pow {σ : St} {H : Hp} {ta tb : TE} {i j : Int} (a : Vl ta σ H (.int i)) (b : Vl tb σ H (.int j)) (c : 2 ≤ i ∧ 1 ≤ j ∧ i < 2 ^ 600 ∧ j ≤ 60) : Vl (tOp rPOW ta tb) σ H (.int (i ^ j.toNat)) := vl_i (g := fun i j => .int (i ^ j.toNat)) a b c
theorem vl_ix {K : PySem.W.Frag} {σ : St} {H : Hp} {ta tb : TE} {p : Addr} {xs : List V} {i : Int} {v : V} (a : Vl ta σ H (.ref p)) (b : Vl tb σ H (.int i)) (h : H p = some (.lst xs)) (g : atI xs i = some v) : Vl (tOp (rIx K) ta tb) σ H v := vl_op a b fun Q q => .inl ⟨p, xs, i, v, rfl, rfl, SqL.of h, g, q⟩
theorem ts_set {σ : St} {H : Hp} {te : TE} {i : Nat} {v : V} {Dn : Ends} (a : Vl te σ H v) (h : Dn.nx (σ.set i (some v)) H) : tAsg te (gName i) Dn σ H := a _ h
theorem ts_sub {σ : St} {H : Hp} {te to ti : TE} {v : V} {p : Addr} {xs : List V} {k : Int} {j : Nat} {Dn : Ends} (a : Vl te σ H v) (b : Vl to σ H (.ref p)) (d : Vl ti σ H (.int k)) (h : H p = some (.lst xs)) (hj : ixN xs.length k = some j) (q : Dn.nx σ (upd H p (.lst (xs.set j v)))) : tAsg te (gSub to ti rSetL) Dn σ H :=
  a _ (b _ (d _ ⟨p, xs, k, j, rfl, rfl, h, hj, q⟩))
theorem ts_seq {σ : St} {H : Hp} {t u : TS} {Dn : Ends} (h : t { Dn with nx := u Dn } σ H) : tSeq t u Dn σ H := h
theorem ts_if {σ : St} {H : Hp} {te : TE} {b : Bool} {t u : TS} {Dn : Ends} (a : Vl te σ H (.bl b)) (h1 : b = true → t Dn σ H) (h2 : b = false → u Dn σ H) : tIfS (tTest te) t u Dn σ H := a _ ⟨b, rfl, by
  cases b with
  | true => exact iteT (h1 rfl)
  | false => exact iteF (h2 rfl)⟩
theorem ts_ret {σ : St} {H : Hp} {te : TE} {v : V} {Dn : Ends} (a : Vl te σ H v) (h : Dn.rt v H) : tRet te Dn σ H := a _ h
theorem ts_next {σ : St} {H : Hp} {Dn : Ends} (h : Dn.nx σ H) : tNext Dn σ H := h
theorem pos_fmod {i j : Int} (h : 0 < j) : 0 ≤ i.fmod j ∧ i.fmod j < j := by
  rw [Int.fmod_eq_emod_of_nonneg i (by omega)]
  exact ⟨Int.emod_nonneg i (by omega), Int.emod_lt_of_pos i h⟩
section
variable {P : Program} {w : World} {K : PySem.W.Frag} {mg : Str → Option Value} {base : Heap} {f : Addr} {fd : FuncData}
abbrev sp__law_scoop (K : PySem.W.Frag) : Sp := SpX (ι := Int) K (fun b => [.kln, .py (.int b)]) (fun b n => 0 < b ∧ b < 2 ^ 200 ∧ n < 2 ^ 100) fun b n d m => ∃ r : Int, d = .py (.int r) ∧ 0 ≤ r ∧ r < b ∧ m = n + 1
theorem ln__law_scoop (b : Int) : [D.kln, .py (.int b)].length = 2 := rfl
theorem nm__law_scoop (b : Int) : [D.kln, .py (.int b)].all D.nm = true := rfl
theorem sc__law_scoop : FnScope ["kiln", "bound", "mixed", "found"] ["kiln", "bound"] (defScope (top 85)) := ⟨rfl, rfl, rfl, by decide +kernel, rfl, by decide +kernel, by decide +kernel⟩
theorem ok__law_scoop (F : FnP K "_law_scoop" "_law_scoop" (top 85) f fd)  : FnOk P w K mg base CX0 1 f fd ["kiln", "bound"] (sp__law_scoop K) := by
  refine F.ok sc__law_scoop (sx_len ln__law_scoop) (fun cdv A outer s H vs Q E hr h => ?_)
  have nd := sc__law_scoop.nd
  refine ⟨_, PSs.nox (pss_cons (ps_if (pt_cmpR op_gt (pe_ix (ixK (K := K) rfl) (pv 0) (pe_int) (fun _ _ => rfl)) (pe_int) (nomark _)) (pss_cons (ps_set (i := 3) nd rfl (Or.inl rfl) (pe_op op_modN (pe_ix (ixK (K := K) rfl) (pv 0) (pe_int) (fun _ _ => rfl)) (pv 1)))
 (pss_cons (ps_asg (pe_op op_fdivW (pe_ix (ixK (K := K) rfl) (pv 0) (pe_int) (fun _ _ => rfl)) (pv 1)) (pg_sub (pv 0) (pe_int) set_list))
 (pss_one (ps_ret (pv 3))))) (pss_nil))
 (pss_cons (ps_asg (pe_op (addK (K := K) rfl) (pe_ix (ixK (K := K) rfl) (pv 0) (pe_int) (fun _ _ => rfl)) (pe_int)) (pg_sub (pv 0) (pe_int) set_list))
 (pss_cons (ps_set (i := 2) nd rfl (Or.inl rfl) (pe_op op_modN (pe_op opPOW (pe_op (addK (K := K) rfl) (pe_ix (ixK (K := K) rfl) (pv 0) (pe_int) (fun _ _ => rfl)) (pe_op opMUL (pe_int) (pe_ix (ixK (K := K) rfl) (pv 0) (pe_int) (fun _ _ => rfl)))) (pe_int)) (pe_op (addK (K := K) rfl) (pe_op opPOW (pe_int) (pe_int)) (pe_int))))
 (pss_cons (ps_set (i := 2) nd rfl (Or.inl rfl) (pe_op op_modN (pe_op opPOW (pe_op (addK (K := K) rfl) (pv 2) (pe_op opMUL (pe_int) (pe_ix (ixK (K := K) rfl) (pv 0) (pe_int) (fun _ _ => rfl)))) (pe_int)) (pe_op (addK (K := K) rfl) (pe_op opPOW (pe_int) (pe_int)) (pe_int))))
 (pss_one (ps_ret (pe_op op_modN (pe_op op_fdivW (pv 2) (pe_int)) (pv 1)))))))), ?_⟩
  refine body_x nm__law_scoop ?_ vs H Q E h
  clear h hr
  intro c n x hK hp
  (subst hK)
  try clear F
  refine ⟨fun σ A H o Dn nx rt _ _ => ?_⟩
  obtain ⟨_, v0, s0, p, rfl, hk⟩ := o.val 0 .kln rfl
  obtain ⟨_, v1, s1, x1⟩ := o.val 1 (.py (.int x)) rfl
  cases Da.int_eq x1
  obtain ⟨a, b, m, hq, ha, hb, hb2, hm, hmn⟩ := o.good.kl p hk
  obtain ⟨b0, b1, nb⟩ := hp
  have len : σ.length = 4 := o.len
  have hmn' : m ≤ (n : Int) := hmn
  have g2 : ∀ {u : Option V} {y : Option V}, (σ.set 3 y)[0]? = some (some (V.ref p)) ∧ (σ.set 3 y)[1]? = some (some (V.int x)) ∧ (σ.set 3 y)[3]? = some y := fun {u y} =>
    ⟨by rw [List.getElem?_set_ne (by decide)]; exact s0, by rw [List.getElem?_set_ne (by decide)]; exact s1, List.getElem?_set_self (by omega)⟩
  have fin : ∀ (a' m' r : Int), 0 ≤ a' → 0 ≤ m' → m' ≤ (n : Int) + 1 → 0 ≤ r → r < x → Dn.rt (.int r) (upd H p (.lst [.int a', .int b, .int m'])) := fun a' m' r q1 q2 q3 q4 q5 => by
    refine rt (.int r) _ (.py (.int r)) (n + 1) ⟨r, rfl, q4, q5, rfl⟩ (fun z u nn e => by rw [upd_ne (fun q => nn (.inl (by rw [q]; exact hk)))]; exact e) ⟨fun z s => ?_, fun z e => ?_⟩ (.int r)
    · by_cases q : z = p
      · rw [q, upd_same]; exact fun w => nomatch w
      · rw [upd_ne q]; exact o.good.al z s
    · have q : z = p := by rw [hk] at e; exact (Option.some.inj e).symm
      rw [q]
      exact ⟨a', b, m', upd_same, q1, hb, hb2, q2, by show m' ≤ ((n + 1 : Nat) : Int); omega⟩
  refine ts_seq (ts_if (b := decide (0 < a)) (vl_i0 (g := fun i j => V.bl (decide (j < i))) (vl_ix (vl_v s0) vl_c hq rfl) vl_c) (fun h1 => ?_) (fun h1 => ?_))
  · have h1' := of_decide_eq_true h1
    refine ts_seq (ts_set (vl_i (g := fun i j => V.int (i.fmod j)) (vl_ix (vl_v s0) vl_c hq rfl) (vl_v s1) (by omega)) ?_)
    obtain ⟨w0, w1, w3⟩ := @g2 none (some (V.int (a.fmod x)))
    refine ts_seq (ts_sub (vl_i (g := fun i j => V.int (i / j)) (vl_ix (vl_v w0) vl_c hq rfl) (vl_v w1) (wide_div (b := 200) b0 (by omega) (by decide) (by decide))) (vl_v w0) vl_c hq (j := 0) rfl ?_)
    exact ts_ret (vl_v w3) (fin (a / x) m (a.fmod x) (Int.ediv_nonneg ha (by omega)) hm (by omega) (pos_fmod b0).1 (pos_fmod b0).2)
  · refine ts_next ?_
    have q0 : (upd H p (.lst [V.int a, .int b, .int (m + 1)])) p = some (.lst [V.int a, .int b, .int (m + 1)]) := upd_same
    refine ts_seq (ts_sub (vl_add (vl_ix (vl_v s0) vl_c hq rfl) vl_c) (vl_v s0) vl_c hq (j := 2) rfl ?_)
    have n1 : m + 1 < 2 ^ 101 := by omega
    have p43 : (10 : Int) ^ (43 : Int).toNat + 57 = 10000000000000000000000000000000000000000057 := by decide +kernel
    have p42 : (10 : Int) ^ (42 : Int).toNat + 63 = 1000000000000000000000000000000000000000063 := by decide +kernel
    have b1 : b + 67867967 * (m + 1) < 2 ^ 600 := by omega
    refine ts_seq (ts_set (vl_i (g := fun i j => V.int (i.fmod j)) (vl_pow (vl_add (vl_ix (vl_v s0) vl_c q0 rfl) (vl_mul vl_c (vl_ix (vl_v s0) vl_c q0 rfl) (wide_mul (a := 30) (b := 101) (by decide) (by omega) (by decide) (by decide) (by decide)))) vl_c ⟨by omega, by decide, b1, by decide⟩) (vl_add (vl_pow vl_c vl_c ⟨by decide, by decide, by decide +kernel, by decide⟩) vl_c) (by rw [p43]; decide)) ?_)
    rw [p43]
    generalize hz : ((b + 67867967 * (m + 1)) ^ (3 : Int).toNat).fmod 10000000000000000000000000000000000000000057 = z
    have z0 := pos_fmod (i := (b + 67867967 * (m + 1)) ^ (3 : Int).toNat) (j := 10000000000000000000000000000000000000000057) (by decide)
    rw [hz] at z0
    have s0' : (σ.set 2 (some (V.int z)))[0]? = some (some (V.ref p)) := by rw [List.getElem?_set_ne (by decide)]; exact s0
    have s2' : (σ.set 2 (some (V.int z)))[2]? = some (some (V.int z)) := List.getElem?_set_self (by omega)
    have b2 : z + 49979687 * (m + 1) < 2 ^ 600 := by omega
    refine ts_seq (ts_set (vl_i (g := fun i j => V.int (i.fmod j)) (vl_pow (vl_add (vl_v s2') (vl_mul vl_c (vl_ix (vl_v s0') vl_c q0 rfl) (wide_mul (a := 30) (b := 101) (by decide) (by omega) (by decide) (by decide) (by decide)))) vl_c ⟨by omega, by decide, b2, by decide⟩) (vl_add (vl_pow vl_c vl_c ⟨by decide, by decide, by decide +kernel, by decide⟩) vl_c) (by rw [p42]; decide)) ?_)
    rw [p42, List.set_set]
    generalize hy : ((z + 49979687 * (m + 1)) ^ (3 : Int).toNat).fmod 1000000000000000000000000000000000000000063 = y
    have s1'' : (σ.set 2 (some (V.int y)))[1]? = some (some (V.int x)) := by rw [List.getElem?_set_ne (by decide)]; exact s1
    have s2'' : (σ.set 2 (some (V.int y)))[2]? = some (some (V.int y)) := List.getElem?_set_self (by omega)
    refine ts_ret (vl_i (g := fun i j => V.int (i.fmod j)) (vl_i (g := fun i j => V.int (i / j)) (vl_v s2'') vl_c (wide_div (b := 200) (by decide) (by decide) (by decide) (by decide))) (vl_v s1'') (by omega)) ?_
    exact fin a (m + 1) _ ha (by omega) (by omega) (pos_fmod b0).1 (pos_fmod b0).2
end
end Wx

/-! ### part V4 -/
set_option Elab.async false
set_option linter.all false
set_option maxRecDepth 100000
set_option maxHeartbeats 1000000
set_option autoImplicit false
namespace Wx
open PySem L2
section
variable {c : Cy} {Φ : D → Nat → Prop}
theorem wp_scoop {sl : List Slo} {nn : Nat} {tb : TE} {i : Nat} {K : PySem.W.Frag} (hK : K = c.K) (h0 : sl[i]? = some (.val .kln)) (h : Wp c tb ⟨sl, nn⟩ fun d n => ∃ b, d = .py (.int b) ∧ 0 < b ∧ b < 2 ^ 200 ∧ n < 2 ^ 100 ∧ ∀ r, 0 ≤ r → r < b → Φ (.py (.int r)) (n + 1)) :
    Wp c (tCall (sp__law_scoop K) [] E0 (tCons (tVar i) (tCons tb tNil))) ⟨sl, nn⟩ Φ := by
  refine wp_cx hK (wa_cons (wp_var h0 (wa_cons (h.mono fun d n q => wa_nil ?_))))
  obtain ⟨b, rfl, h1, h2, h3, h4⟩ := q
  refine ⟨rfl, b, rfl, ⟨h1, h2, h3⟩, ?_⟩
  rintro d m ⟨r, rfl, r0, r1, rfl⟩
  exact ⟨rfl, h4 r r0 r1⟩
theorem ws_join {sl : List Slo} {nn : Nat} {t u : TS} {P : Po} (J : En → Prop) (h : Ws c t ⟨sl, nn⟩ ⟨J, P.rt, P.bk, P.ct⟩) (k : ∀ e1, J e1 → Ws c u e1 P) : Ws c (tSeq t u) ⟨sl, nn⟩ P :=
  ws_seq ⟨fun σ A H o Dn nx rt bk ct => h.run σ A H o Dn (fun σ' A' H' e' j kp w o' => nx σ' A' H' e' (k e' j) kp w o') rt bk ct⟩
/-- the places from the top down -/
def downS (t : Int) (k : Nat) : List Src := (List.range k).map fun (j : Nat) => Src.inp (t - 1 + (j : Int) * -1)
theorem downS_succ (t : Int) (k : Nat) : downS t (k + 1) = downS t k ++ [.inp (t - 1 + (k : Int) * -1)] := by
  unfold downS
  rw [List.range_succ, List.map_append]
  rfl
theorem downS_len (t : Int) (k : Nat) : (downS t k).length = k := by unfold downS; rw [List.length_map, List.length_range]
theorem downS_mem {t : Int} {k : Nat} {s : Src} (h : s ∈ downS t k) : ∃ j : Nat, j < k ∧ s = .inp (t - 1 - j) := by
  unfold downS at h
  obtain ⟨j, h1, h2⟩ := List.mem_map.mp h
  exact ⟨j, List.mem_range.mp h1, by rw [← h2]; congr 1; omega⟩
theorem ws_mid {e : En} {t : TS} {P : Po} (J : En → Prop) (h : Ws c t e ⟨J, P.rt, P.bk, P.ct⟩) (k : ∀ e1, J e1 → P.nx e1) : Ws c t e P :=
  ⟨fun σ A H o Dn nx rt bk ct => h.run σ A H o Dn (fun σ' A' H' e' j kp w o' => nx σ' A' H' e' (k e' j) kp w o') rt bk ct⟩
theorem wt_mono {e : En} {t : TT} {Ψ Θ : Bool → Nat → Prop} (h : Wt c t e Θ) (w : ∀ b n, Θ b n → Ψ b n) : Wt c t e Ψ := ⟨fun σ A H o Q k => h.run σ A H o Q fun b H2 n p => k b H2 n (w b n p)⟩
theorem wt_yes {e : En} {Ψ : Bool → Nat → Prop} (h : Ψ true e.n) : Wt c tYes e Ψ := ⟨fun σ A H o Q k => k true H e.n h Ek.refl o.good⟩
theorem at3 {i j k r : Int} (p : Int → Prop) (hi : p i) (hj : p j) (hk : p k) (h0 : 0 ≤ r) (h1 : r < 3) : ∃ v, atI [PyData.int i, .int j, .int k] r = some (.int v) ∧ p v := by
  have q : r = 0 ∨ r = 1 ∨ r = 2 := by omega
  rcases q with rfl | rfl | rfl
  · exact ⟨i, rfl, hi⟩
  · exact ⟨j, rfl, hj⟩
  · exact ⟨k, rfl, hk⟩
theorem at2 {i j r : Int} (p : Int → Prop) (hi : p i) (hj : p j) (h0 : 0 ≤ r) (h1 : r < 2) : ∃ v, atI [PyData.int i, .int j] r = some (.int v) ∧ p v := by
  have q : r = 0 ∨ r = 1 := by omega
  rcases q with rfl | rfl
  · exact ⟨i, rfl, hi⟩
  · exact ⟨j, rfl, hj⟩
end

section
variable {P : Program} {w : World} {K : PySem.W.Frag} {mg : Str → Option Value} {base : Heap} {f : Addr} {fd : FuncData}
def okS (t : Int) : Src → Prop
  | .inp p => 0 ≤ p ∧ p < t
  | .lit v => -(10 ^ 30) ≤ v ∧ v ≤ 10 ^ 30
def okM (most : Int) (t : Int) (l : List Src) : Prop := 0 ≤ t ∧ t ≤ most ∧ (l.length : Int) ≤ most ∧ ∀ s ∈ l, okS t s
abbrev sp__law_made (K : PySem.W.Frag) : Sp := SpX (ι := Int) K (fun b => [.kln, .py (.int b)]) (fun b n => 4 ≤ b ∧ b ≤ 100 ∧ n < 2 ^ 99) fun b n d m => ∃ t l, d = .py (.tuple [.int t, srcs l]) ∧ okM b t l ∧ m ≤ n + 1000
theorem ln__law_made (b : Int) : [D.kln, .py (.int b)].length = 2 := rfl
theorem nm__law_made (b : Int) : [D.kln, .py (.int b)].all D.nm = true := rfl
theorem sc__law_made : FnScope ["kiln", "most", "taken_here", "many", "turn", "found", "way", "place"] ["kiln", "most"] (defScope (top 87)) := ⟨rfl, rfl, rfl, by decide +kernel, rfl, by decide +kernel, by decide +kernel⟩
theorem ok__law_made (F : FnP K "_law_made" "_law_made" (top 87) f fd) (S__law_scoop : Std P w K mg base 1 "_law_scoop" ["kiln", "bound"] (sp__law_scoop K)) (g_range : mg "range" = none) (g_min : mg "min" = none) (g_len : mg "len" = none) (g_int : mg "int" = none) (g_tuple : mg "tuple" = none) : FnOk P w K mg base CX0 2 f fd ["kiln", "most"] (sp__law_made K) := by
  refine F.ok sc__law_made (sx_len ln__law_made) (fun cdv A outer s H vs Q E hr h => ?_)
  have nd := sc__law_made.nd
  refine ⟨_, PSs.nox (pss_cons (ps_set (i := 2) nd rfl (Or.inl rfl) (pe_ix (ixK (K := K) rfl) (pe_lst (pa_cons (pe_std S__law_scoop hr rfl (pa_cons (pv 0) (pa_cons (pe_int) (pa_nil)))) (pa_cons (pe_std S__law_scoop hr rfl (pa_cons (pv 0) (pa_cons (pe_op (addK (K := K) rfl) (pv 1) (pe_int)) (pa_nil)))) (pa_cons (pv 1) (pa_nil))))) (pe_std S__law_scoop hr rfl (pa_cons (pv 0) (pa_cons (pe_int) (pa_nil)))) (fun _ _ => rfl)))
 (pss_cons (ps_parO (ps_par (i := 5) (j := 6) rfl nd rfl rfl (by decide) rfl rfl (pa_cons (pe_lst (pa_nil)) (pa_cons (pe_std S__law_scoop hr rfl (pa_cons (pv 0) (pa_cons (pe_int) (pa_nil)))) (pa_nil))) rfl))
 (pss_cons (ps_if (pt_cmpR (eqK (K := K) rfl (room64 hr)) (pv 6) (pe_int) (nomark _)) (pss_one (ps_asO (ps_setLc (i := 5) (own := [("place", 7)]) rfl nd rfl rfl (sw_true rfl rfl rfl (by decide +kernel)) (pi_range3 rfl g_range (pa_cons (pe_op op_sub (pv 2) (pe_int)) (pa_cons (pe_un un_neg (pe_int)) (pa_cons (pe_un un_neg (pe_int)) (pa_nil))))) (blkOk_by (N := ["kiln", "most", "taken_here", "many", "turn", "found", "way", "place"]) (sc := (defScope (top 87))) (by decide +kernel)) (fun _ _ _ _ _ => pg_name (i := 7) nd rfl (Or.inl rfl) (.inr rfl)) (fun _ _ _ _ _ => pts_nil) (fun _ _ _ _ _ => pe_tup (pa_cons (pe_str) (pa_cons (pv 7) (pa_nil))))))) (pss_nil))
 (pss_cons (ps_set (i := 3) nd rfl (Or.inl rfl) (pe_ix (ixK (K := K) rfl) (pe_lst (pa_cons (pe_std S__law_scoop hr rfl (pa_cons (pv 0) (pa_cons (pe_int) (pa_nil)))) (pa_cons (pe_std S__law_scoop hr rfl (pa_cons (pv 0) (pa_cons (pe_op (addK (K := K) rfl) (pv 1) (pe_int)) (pa_nil)))) (pa_cons (pv 2) (pa_nil))))) (pe_std S__law_scoop hr rfl (pa_cons (pv 0) (pa_cons (pe_int) (pa_nil)))) (fun _ _ => rfl)))
 (pss_cons (ps_for PassesOwn.never rfl (pi_range1 rfl g_range (pa_cons (pe_callB (callMIN2 rfl) rfl g_min bt_min (pa_cons (pv 3) (pa_cons (pe_op op_sub (pv 1) (pe_callB (lenK (K := K) rfl) rfl g_len PySem.boot_len (pa_cons (pv 5) (pa_nil)))) (pa_nil)))) (pa_nil))) (pg_name (i := 4) nd rfl (Or.inl rfl)) (pss_one (ps_if (PW.pt (pw_or (pt_cmpR (eqK (K := K) rfl (room64 hr)) (pv 2) (pe_int) (nomark _)) (pw_or1 (pt_cmpR (eqK (K := K) rfl (room64 hr)) (pe_std S__law_scoop hr rfl (pa_cons (pv 0) (pa_cons (pe_int) (pa_nil)))) (pe_int) (nomark _))))) (pss_one (ps_expr (pe_bm PySem.F.plainAttrs_list PySem.F.slot_list_append PySem.F.type_list_append mt_append (pv 5) (pa_cons (pe_tup (pa_cons (pe_str) (pa_cons (pe_ix (ixK (K := K) rfl) (pe_lst (pa_cons (pe_std S__law_scoop hr rfl (pa_cons (pv 0) (pa_cons (pe_int) (pa_nil)))) (pa_cons (pe_op op_sub (pe_std S__law_scoop hr rfl (pa_cons (pv 0) (pa_cons (pe_op (addK (K := K) rfl) (pe_op opMUL (pe_int) (pe_op opPOW (pe_int) (pe_int))) (pe_int)) (pa_nil)))) (pe_op opPOW (pe_int) (pe_int))) (pa_nil)))) (pe_op op_modN (pv 6) (pe_int)) (fun _ _ => rfl)) (pa_nil)))) (pa_nil))))) (pss_one (ps_expr (pe_bm PySem.F.plainAttrs_list PySem.F.slot_list_append PySem.F.type_list_append mt_append (pv 5) (pa_cons (pe_tup (pa_cons (pe_str) (pa_cons (pe_ix (ixK (K := K) rfl) (pe_lst (pa_cons (pe_op op_modN (pv 4) (pv 2)) (pa_cons (pe_std S__law_scoop hr rfl (pa_cons (pv 0) (pa_cons (pv 2) (pa_nil)))) (pa_nil)))) (pe_callTy callINT1 rfl g_int bt_int (pa_cons (pe_cmpR op_gt (pv 6) (pe_int) (nomark _)) (pa_nil))) (fun _ _ => rfl)) (pa_nil)))) (pa_nil))))))))
 (pss_cons (ps_if (pt_cmpR (eqK (K := K) rfl (room64 hr)) (pv 6) (pe_int) (nomark _)) (pss_one (ps_setO (i := 5) nd rfl (Or.inl rfl) (pe_revL (pv 5)))) (pss_nil))
 (pss_one (ps_ret (pe_tup (pa_cons (pv 2) (pa_cons (pe_callTy (tupK (K := K) rfl) rfl g_tuple bt_tuple (pa_cons (pv 5) (pa_nil))) (pa_nil)))))))))))), ?_⟩
  refine body_x nm__law_made ?_ vs H Q E h
  clear h hr
  intro c n x hK hp
  (subst hK)
  try clear S__law_scoop g_range g_min g_len g_int g_tuple F
  have h1 : 4 ≤ x := hp.1
  have h2 : x ≤ 100 := hp.2.1
  have h3 : n < 2 ^ 99 := hp.2.2
  walk_at "WK"
  refine ⟨_, rfl, by decide, by decide, by omega, fun r1 a1 b1 => ?_⟩
  walk_at "WK"
  refine ⟨_, rfl, by omega, by omega, by omega, fun r2 a2 b2 => ?_⟩
  walk_at "WK"
  refine ⟨_, rfl, by decide, by decide, by omega, fun r3 a3 b3 => ?_⟩
  walk_at "WK"
  obtain ⟨t, et, ht0, ht1⟩ := at3 (fun v => 0 ≤ v ∧ v ≤ x) (i := r1) (j := r2) (k := x) ⟨by omega, by omega⟩ ⟨by omega, by omega⟩ ⟨by omega, by omega⟩ a3 b3
  refine ⟨_, et, ?_⟩
  clear et
  walk_at "WK"
  refine ⟨_, rfl, by decide, by decide, by omega, fun way w0 w1 => ⟨rfl, ?_⟩⟩
  refine ws_join (fun e1 => ∃ l : List Src, okM x t l ∧ e1 = ⟨[.val .kln, .val (.py (.int x)), .val (.py (.int t)), .emp, .emp, .own (.lst (pys l)), .val (.py (.int way)), .emp], n + 4⟩) ?_ ?_
  · walk_at "WK"
    refine ⟨fun q1 => ?_, fun q1 => ?_⟩
    · walk_at "WK"
      refine wn_lc (fun v hv => ?_) (wi_rng3 ?_)
      · have : v = 7 := by simpa using hv
        subst this
        exact Nat.le_of_ble_eq_true rfl
      · walk_at "WK"
        refine ⟨(t - 1 - -1).toNat, RgC.neg (by omega) (by omega) (by decide) (by decide), fun i acc m => m = n + 4 ∧ acc = pys (downS t i), ⟨rfl, rfl⟩, by rw [seqI_len]; omega, ?_, ?_⟩
        · rintro i acc m d hd ⟨rfl, rfl⟩
          obtain ⟨hi, rfl⟩ := seqI_of hd
          refine wg_name ⟨rfl, ?_⟩ (Nat.le_of_ble_eq_true rfl) (by decide)
          refine wt_yes ⟨fun _ => ?_, fun z => nomatch z⟩
          walk_at "WK"
          rw [downS_succ, ← pys_app]
          rfl
        · rintro acc m ⟨rfl, rfl⟩
          rw [seqI_len]
          refine ⟨downS t (t - 1 - -1).toNat, ⟨ht0, ht1, by rw [downS_len]; omega, fun s hs => ?_⟩, rfl⟩
          obtain ⟨j, hj, rfl⟩ := downS_mem hs
          exact ⟨by omega, by omega⟩
    · walk_at "WK"
      exact ⟨[], ⟨ht0, ht1, by simp; omega, fun s hs => by simp at hs⟩, rfl⟩
  · rintro e1 ⟨l0, hl0, rfl⟩
    walk_at "WK"
    refine ⟨_, rfl, by decide, by decide, by omega, fun r4 a4 b4 => ?_⟩
    walk_at "WK"
    refine ⟨_, rfl, by omega, by omega, by omega, fun r5 a5 b5 => ?_⟩
    walk_at "WK"
    refine ⟨_, rfl, by decide, by decide, by omega, fun r6 a6 b6 => ?_⟩
    walk_at "WK"
    obtain ⟨k, ek, hk0, hk1⟩ := at3 (fun v => 0 ≤ v ∧ v ≤ x) (i := r4) (j := r5) (k := t) ⟨by omega, by omega⟩ ⟨by omega, by omega⟩ ⟨by omega, by omega⟩ a6 b6
    refine ⟨_, ek, ?_⟩
    clear ek
    walk_at "WK"
    refine ws_mid (fun e1 => ∃ (l : List Src) (s4 : Slo) (m : Nat), okM x t l ∧ m ≤ n + 900 ∧ e1 = ⟨[.val .kln, .val (.py (.int x)), .val (.py (.int t)), .val (.py (.int k)), s4, .own (.lst (pys l)), .val (.py (.int way)), .emp], m⟩) ?_ ?_
    · refine ws_for [4] (wi_rng1 ?_)
      walk_at "WK"
      rw [pys_len]
      have hl0' := hl0.2.2.1
      generalize hj : (if x - (l0.length : Int) < k then x - (l0.length : Int) else k) = j
      have hj1 : j ≤ x - l0.length ∧ j ≤ x := by rw [← hj]; split <;> omega
      have hj0 : 0 ≤ j := by rw [← hj]; split <;> omega
      refine ⟨by omega, by omega, fun i e1 => ∃ (l : List Src) (s4 : Slo) (m : Nat), (l.length : Int) ≤ l0.length + i ∧ (∀ s ∈ l, okS t s) ∧ m ≤ n + 7 + 3 * i ∧ e1 = ⟨[.val .kln, .val (.py (.int x)), .val (.py (.int t)), .val (.py (.int k)), s4, .own (.lst (pys l)), .val (.py (.int way)), .emp], m⟩, ⟨l0, .emp, n + 7, by omega, hl0.2.2.2, by omega, rfl⟩, ?_, ?_⟩
      · rintro i d e1 hd ⟨l, s4, m, hl, hs, hm, rfl⟩
        obtain ⟨hi, rfl⟩ := seqI_of hd
        refine wg_name ⟨rfl, ?_⟩ (Nat.le_of_ble_eq_true rfl) (by decide)
        refine ws_if (wt_mono (Θ := fun b n' => n' ≤ m + 1 ∧ (b = false → 0 < t)) ?_ fun b n' ⟨hn, hb⟩ => ⟨fun hb1 => ?_, fun hb1 => ?_⟩)
        · walk_at "WK"
          refine ⟨fun q1 => ?_, fun q1 => ⟨by walk_at "OM", fun z => nomatch z⟩⟩
          have q1' := of_decide_eq_false q1
          walk_at "WK"
          refine ⟨_, rfl, by decide, by decide, by walk_at "OM", fun r7 a7 b7 => ?_⟩
          walk_at "WK"
          exact ⟨by walk_at "OM", fun _ => by walk_at "OM"⟩
        · clear hb
          walk_at "WK"
          refine ⟨_, rfl, by decide, by decide, by walk_at "OM", fun r8 a8 b8 => ?_⟩
          walk_at "WK"
          have p30 : (10 : Int) ^ Int.toNat 30 = 10 ^ 30 := by decide +kernel
          rw [p30]
          refine ⟨_, rfl, by walk_at "OM", by walk_at "OM", by walk_at "OM", fun r9 a9 b9 => ?_⟩
          walk_at "WK"
          rw [p30]
          obtain ⟨v, ev, hv0, hv1⟩ := at2 (fun v => -(10 ^ 30) ≤ v ∧ v ≤ 10 ^ 30) (i := r8) (j := r9 - 10 ^ 30) (r := way.fmod 2) ⟨by walk_at "OM", by walk_at "OM"⟩ ⟨by walk_at "OM", by walk_at "OM"⟩ (pos_fmod (by decide)).1 (pos_fmod (by decide)).2
          refine ⟨_, ev, ?_⟩
          clear ev
          walk_at "WK"
          refine ⟨_, rfl, by rw [pys_len]; exact Nat.lt_of_lt_of_le (m := 1000) (by walk_at "OM") (by decide), ?_⟩
          refine ⟨l ++ [.lit v], .val (.py (.int (0 + (i : Int) * 1))), n' + 1 + 1, ?_, ?_, ?_, by rw [← pys_app]; rfl⟩
          · rw [List.length_append]; show ((l.length + 1 : Nat) : Int) ≤ _; omega
          · intro s hs'
            rcases List.mem_append.mp hs' with hs' | hs'
            · exact hs s hs'
            · rw [List.mem_singleton.mp hs']; exact ⟨hv0, hv1⟩
          · walk_at "OM"
        · have ht := hb hb1
          walk_at "WK"
          refine ⟨_, rfl, by walk_at "OM", by walk_at "OM", by walk_at "OM", fun r8 a8 b8 => ?_⟩
          walk_at "WK"
          have f0 := pos_fmod (i := 0 + (i : Int) * 1) ht
          obtain ⟨v, ev, hv0, hv1⟩ := at2 (fun v => 0 ≤ v ∧ v < t) (i := (0 + (i : Int) * 1).fmod t) (j := r8) (r := if decide (2 < way) = true then 1 else 0) f0 ⟨a8, b8⟩ (by split <;> omega) (by split <;> omega)
          refine ⟨_, ev, ?_⟩
          clear ev
          walk_at "WK"
          refine ⟨_, rfl, by rw [pys_len]; exact Nat.lt_of_lt_of_le (m := 1000) (by walk_at "OM") (by decide), ?_⟩
          refine ⟨l ++ [.inp v], .val (.py (.int (0 + (i : Int) * 1))), n' + 1, ?_, ?_, ?_, by rw [← pys_app]; rfl⟩
          · rw [List.length_append]; show ((l.length + 1 : Nat) : Int) ≤ _; omega
          · intro s hs'
            rcases List.mem_append.mp hs' with hs' | hs'
            · exact hs s hs'
            · rw [List.mem_singleton.mp hs']; exact ⟨hv0, hv1⟩
          · walk_at "OM"
      · rintro e1 ⟨l, s4, m, hl, hs, hm, rfl⟩
        rw [seqI_len] at hl hm
        exact ⟨l, s4, m, ⟨ht0, ht1, by walk_at "OM", hs⟩, by walk_at "OM", rfl⟩
    · rintro e1 ⟨l, s4, m, hl, hm, rfl⟩
      refine ws_join (fun e1 => ∃ (l : List Src), okM x t l ∧ e1 = ⟨[.val .kln, .val (.py (.int x)), .val (.py (.int t)), .val (.py (.int k)), s4, .own (.lst (pys l)), .val (.py (.int way)), .emp], m⟩) ?_ ?_
      · walk_at "WK"
        refine ⟨fun q1 => ?_, fun q1 => ?_⟩
        · walk_at "WK"
          refine ⟨l.reverse, ⟨hl.1, hl.2.1, by rw [List.length_reverse]; exact hl.2.2.1, fun s hs => hl.2.2.2 s (List.mem_reverse.mp hs)⟩, ?_⟩
          unfold pys
          rw [← List.map_reverse]
          rfl
        · walk_at "WK"
          exact ⟨l, hl, rfl⟩
      · rintro e1 ⟨l, hl, rfl⟩
        walk_at "WK"
        exact ⟨t, l, rfl, hl, by walk_at "OM"⟩
end
end Wx

/-! ### part V5 -/
set_option Elab.async false
set_option linter.all false
set_option maxRecDepth 100000
set_option maxHeartbeats 1000000
set_option autoImplicit false
namespace Wx
open PySem L2

section
variable {P : Program} {w : World} {K : PySem.W.Frag} {mg : Str → Option Value} {base : Heap} {f C : Addr} {fd : FuncData}
/-! ## is_source -/
def isS : Src → Prop
  | .inp p => 0 ≤ p
  | .lit v => -(10 ^ 30) ≤ v ∧ v ≤ 10 ^ 30
abbrev sp_is_source (K : PySem.W.Frag) : Sp := SpX (ι := Src) K (fun s => [.py s.py]) (fun s _ => isS s) fun _ n d m => d = .py (.bool true) ∧ m = n
theorem ln_is_source (s : Src) : [D.py s.py].length = 1 := rfl
theorem nm_is_source (s : Src) : [D.py s.py].all D.nm = true := rfl
theorem sc_is_source : FnScope ["value"] ["value"] (defScope (top 60)) := ⟨rfl, rfl, rfl, by decide +kernel, rfl, by decide +kernel, by decide +kernel⟩
theorem ok_is_source (F : FnP K "is_source" "is_source" (top 60) f fd) (g_isinstance : mg "isinstance" = none) (g_tuple : mg "tuple" = none) (g_len : mg "len" = none) (g_str : mg "str" = none) (S_is_int : Std P w K mg base 1 "is_int" ["value"] (sp_is_int K)) (S_is_constant : Std P w K mg base 3 "is_constant" ["value"] (sp_is_constant K)) : FnOk P w K mg base CX0 4 f fd ["value"] (sp_is_source K) := by
  refine F.ok sc_is_source (sx_len ln_is_source) (fun cdv A outer s H vs Q E hr h => ?_)
  have nd := sc_is_source.nd
  refine ⟨_, PSs.nox (pss_cons (ps_if (PW.pt (pw_or (pt_not (truK (K := K) rfl (pe_callB (isiK (K := K) rfl) rfl g_isinstance bt_isinstance (pa_cons (pv 0) (pa_cons (pe_bltn (v := .ty "tuple") rfl g_tuple bt_tuple rfl) pa_nil))) (by intro _; rfl))) (pw_or (pt_cmpR (neK (K := K) rfl (room64 hr)) (pe_callB (lenK (K := K) rfl) rfl g_len PySem.boot_len (pa_cons (pv 0) (pa_nil))) (pe_int) (nomark _)) (pw_or1 (pt_not (truK (K := K) rfl (pe_callB (isiK (K := K) rfl) rfl g_isinstance bt_isinstance (pa_cons (pe_ix (ixK (K := K) rfl) (pv 0) (pe_int) (fun _ _ => rfl)) (pa_cons (pe_bltn (v := .ty "str") rfl g_str bt_str rfl) pa_nil))) (by intro _; rfl))))))) (pss_one (ps_ret (pe_bl))) (pss_nil))
 (pss_cons (ps_if (pt_cmpR (eqK (K := K) rfl (room64 hr)) (pe_ix (ixK (K := K) rfl) (pv 0) (pe_int) (fun _ _ => rfl)) (pe_str) (nomark _)) (pss_one (ps_ret (pe_and (pe_std S_is_int (hr.mono (by decide)) rfl (pa_cons (pe_ix (ixK (K := K) rfl) (pv 0) (pe_int) (fun _ _ => rfl)) (pa_nil))) (pe_one (pe_cmpR op_ge (pe_ix (ixK (K := K) rfl) (pv 0) (pe_int) (fun _ _ => rfl)) (pe_int) (nomark _)))))) (pss_nil))
 (pss_one (ps_ret (pe_and (pe_cmpR (eqK (K := K) rfl (room64 hr)) (pe_ix (ixK (K := K) rfl) (pv 0) (pe_int) (fun _ _ => rfl)) (pe_str) (nomark _)) (pe_one (pe_std S_is_constant hr rfl (pa_cons (pe_ix (ixK (K := K) rfl) (pv 0) (pe_int) (fun _ _ => rfl)) (pa_nil))))))))), ?_⟩
  refine body_x nm_is_source ?_ vs H Q E h
  clear h hr
  intro c n x hK hp
  (subst hK)
  try clear g_isinstance g_tuple g_len g_str S_is_int S_is_constant F
  cases x with
  | inp p =>
    have hp' : 0 ≤ p := hp
    show Ws c _ ⟨[.val (.py (.tuple [.str "in", .int p]))], n⟩ _
    walk_at "WK"
    refine ⟨fun _ => ?_, fun z => nomatch z⟩
    walk_at "WK"
    refine ⟨fun _ => ?_, fun z => by simp at z⟩
    walk_at "WK"
    refine ⟨_, rfl, ?_⟩
    walk_at "WK"
    refine ⟨fun z => (nomatch z), fun _ => ?_⟩
    walk_at "WK"
    refine ⟨_, rfl, ?_⟩
    walk_at "WK"
    refine ⟨fun _ => ?_, fun z => nomatch z⟩
    walk_at "WK"
    refine ⟨_, rfl, ?_⟩
    walk_at "WK"
    refine ⟨p, rfl, trivial, ?_⟩
    rintro d m ⟨rfl, rfl⟩
    refine ⟨rfl, ?_⟩
    walk_at "WK"
    refine ⟨fun _ => ?_, fun z => nomatch z⟩
    walk_at "WK"
    refine ⟨_, rfl, ?_⟩
    walk_at "WK"
    exact ⟨by simp [frz, hp'], rfl⟩
  | lit v =>
    have hp' : -(10 ^ 30) ≤ v ∧ v ≤ 10 ^ 30 := hp
    show Ws c _ ⟨[.val (.py (.tuple [.str "lit", .int v]))], n⟩ _
    walk_at "WK"
    refine ⟨fun _ => ?_, fun z => nomatch z⟩
    walk_at "WK"
    refine ⟨fun _ => ?_, fun z => by simp at z⟩
    walk_at "WK"
    refine ⟨_, rfl, ?_⟩
    walk_at "WK"
    refine ⟨fun z => (nomatch z), fun _ => ?_⟩
    walk_at "WK"
    refine ⟨_, rfl, ?_⟩
    walk_at "WK"
    refine ⟨fun z => (nomatch z), fun _ => ?_⟩
    walk_at "WK"
    refine ⟨_, rfl, ?_⟩
    walk_at "WK"
    refine ⟨fun _ => ?_, fun z => nomatch z⟩
    walk_at "WK"
    refine ⟨_, rfl, ?_⟩
    walk_at "WK"
    refine ⟨v, rfl, trivial, ?_⟩
    rintro d m ⟨rfl, rfl⟩
    exact ⟨rfl, by rw [decide_eq_true hp']; rfl, rfl⟩
/-! ## Effect.__init__ -/
def effF (t : Int) (l : List Src) : List (Str × PyData) := [("kept_taken", .int t), ("kept_left", srcs l)]
abbrev effD (C : Addr) (t : Int) (l : List Src) : D := .ins C (effF t l)
def okE (t : Int) (l : List Src) : Prop := 0 ≤ t ∧ t ≤ 100 ∧ (l.length : Int) ≤ 100 ∧ ∀ s ∈ l, okS t s
abbrev si_Effect___init__ (K : PySem.W.Frag) (C : Addr) : Sp := SpI (ι := Int × List Src) K C (fun x => [.py (.int x.1), .py (srcs x.2)]) (fun x _ => okE x.1 x.2) fun x => effF (cut x.1 x.2).1 (cut x.1 x.2).2
theorem ln_Effect___init__ (x : Int × List Src) : [D.py (.int x.1), .py (srcs x.2)].length = 2 := rfl
theorem nm_Effect___init__ (x : Int × List Src) : [D.py (.int x.1), .py (srcs x.2)].all D.nm = true := rfl
theorem sc_Effect___init__ : FnScope ["self", "taken", "left", "source"] ["self", "taken", "left"] (defScope (meth 73 0)) := ⟨rfl, rfl, rfl, by decide +kernel, rfl, by decide +kernel, by decide +kernel⟩
theorem ok_Effect___init__ (F : FnP K "__init__" "Effect.__init__" (meth 73 0) f fd) (i_MOST_HIGH : GInt mg "MOST_HIGH" 100) (S_in_range : Std P w K mg base 2 "in_range" ["value", "low", "high"] (sp_in_range K)) (g_isinstance : mg "isinstance" = none) (g_tuple : mg "tuple" = none) (g_len : mg "len" = none) (g_all : mg "all" = none) (S_is_source : Std P w K mg base 4 "is_source" ["value"] (sp_is_source K)) (S_cut_pair : Std P w K mg base 1 "cut_pair" ["taken", "left"] (sp_cut_pair K)) (cl : Cls K C) (a1 : NoAttr K C "kept_taken") (a2 : NoAttr K C "kept_left") : FnOk P w K mg base CX0 5 f fd ["self", "taken", "left"] (si_Effect___init__ K C) := by
  refine F.ok sc_Effect___init__ (si_len ln_Effect___init__) (fun cdv A outer s H vs Q E hr h => ?_)
  have nd := sc_Effect___init__.nd
  refine ⟨_, PSs.nox (pss_cons (ps_if (PW.pt (pw_or (pt_not (truK (K := K) rfl (pe_std S_in_range (hr.mono (by decide)) rfl (pa_cons (pv 1) (pa_cons (pe_int) (pa_cons (pe_gint i_MOST_HIGH rfl) (pa_nil))))) (by intro _; rfl))) (pw_or (pt_not (truK (K := K) rfl (pe_callB (isiK (K := K) rfl) rfl g_isinstance bt_isinstance (pa_cons (pv 2) (pa_cons (pe_bltn (v := .ty "tuple") rfl g_tuple bt_tuple rfl) pa_nil))) (by intro _; rfl))) (pw_or1 (pt_cmpR op_gt (pe_callB (lenK (K := K) rfl) rfl g_len PySem.boot_len (pa_cons (pv 2) (pa_nil))) (pe_gint i_MOST_HIGH rfl) (nomark _)))))) (pss_one (ps_never)) (pss_nil))
 (pss_cons (ps_if (pt_not (truK (K := K) rfl (pe_callB (allK (K := K) rfl rfl) rfl g_all bt_all (pa_cons (pe_lc (own := [("source", 3)]) rfl nd (itupK (K := K) rfl (pv 2)) (blkOk_by (N := ["self", "taken", "left", "source"]) (sc := (defScope (meth 73 0))) (by decide +kernel)) (fun _ _ _ _ _ => pg_name (i := 3) nd rfl (Or.inl rfl) (.inr rfl)) (fun _ _ _ _ _ => pts_nil) (fun _ _ _ _ _ => pe_and (pe_std S_is_source hr rfl (pa_cons (pv 3) (pa_nil))) (pe_one (pe_or (pe_cmpR (eqK (K := K) rfl (room64 hr)) (pe_ix (ixK (K := K) rfl) (pv 3) (pe_int) (fun _ _ => rfl)) (pe_str) (nomark _)) (pe_one (pe_cmpR op_lt (pe_ix (ixK (K := K) rfl) (pv 3) (pe_int) (fun _ _ => rfl)) (pv 1) (nomark _))))))) (pa_nil))) (by intro _; rfl))) (pss_one (ps_never)) (pss_nil))
 (pss_one (ps_asg (pe_std S_cut_pair (hr.mono (by decide)) rfl (pa_cons (pv 1) (pa_cons (pv 2) (pa_nil)))) (gtupK (K := K) (n := 2) rfl rfl (pgs_cons (pg_att (pv 0)) (pgs_cons (pg_att (pv 0)) (pgs_nil)))))))), ?_⟩
  refine body_i nm_Effect___init__ ?_ vs H Q E h
  clear h hr
  intro c n z x dx hK hk hx hp
  (subst hK)
  try clear i_MOST_HIGH S_in_range g_isinstance g_tuple g_len g_all S_is_source S_cut_pair F
  obtain ⟨t, l⟩ := z
  dsimp only
  have hp' : okE t l := hp
  obtain ⟨t0, t1, l1, ls⟩ := hp'
  refine wz_seq hk hx ?_
  walk_at "WK"
  refine ⟨(t, 0, 100), rfl, trivial, ?_⟩
  rintro d m ⟨rfl, rfl⟩
  refine ⟨rfl, ?_⟩
  rw [decide_eq_true (show (0 : Int) ≤ t ∧ t ≤ 100 from ⟨t0, t1⟩)]
  walk_at "WK"
  refine ⟨fun _ => ?_, fun z => nomatch z⟩
  walk_at "WK"
  refine ⟨fun _ => ?_, fun z => nomatch z⟩
  walk_at "WK"
  rw [pys_len, decide_eq_false (show ¬ (100 : Int) < l.length by omega)]
  refine ⟨fun z => (nomatch z), fun _ => ?_⟩
  walk_at "WK"
  refine wz_seq hk hx ?_
  walk_at "WK"
  refine wp_new (wn_lc (fun v hv => ?_) (wi_tup rfl ?_))
  · have : v = 3 := by simpa using hv
    subst this
    exact Nat.le_of_ble_eq_true rfl
  · walk_at "WK"
    refine ⟨fun i acc m' => m' = m ∧ acc = (List.replicate i true).map PyData.bool, ⟨rfl, rfl⟩, by rw [List.length_map, pys_len]; omega, ?_, ?_⟩
    · rintro i acc m' d hd ⟨rfl, rfl⟩
      obtain ⟨s, _, hs, rfl⟩ := pys_item hd
      have hs' := ls s hs
      have fin : (List.replicate i true).map PyData.bool ++ [.bool true] = (List.replicate (i + 1) true).map PyData.bool := by
        rw [List.replicate_succ', List.map_append]
        rfl
      cases s with
      | inp p =>
        have hs2 : 0 ≤ p ∧ p < t := hs'
        rw [show (Src.inp p).py = .tuple [.str "in", .int p] from rfl]
        refine wg_name ⟨rfl, ?_⟩ (Nat.le_of_ble_eq_true rfl) (by decide)
        refine wt_yes ⟨fun _ => ?_, fun z => nomatch z⟩
        walk_at "WK"
        refine ⟨.inp p, rfl, hs2.1, ?_⟩
        rintro d m ⟨rfl, rfl⟩
        refine ⟨rfl, ?_⟩
        walk_at "WK"
        refine ⟨fun _ => ?_, fun z => nomatch z⟩
        walk_at "WK"
        refine ⟨_, rfl, ?_⟩
        walk_at "WK"
        refine ⟨fun _ => ?_, fun z => nomatch z⟩
        walk_at "WK"
        refine ⟨_, rfl, ?_⟩
        walk_at "WK"
        rw [decide_eq_true (show p < t from hs2.2)]
        exact fin
      | lit v =>
        rw [show (Src.lit v).py = .tuple [.str "lit", .int v] from rfl]
        refine wg_name ⟨rfl, ?_⟩ (Nat.le_of_ble_eq_true rfl) (by decide)
        refine wt_yes ⟨fun _ => ?_, fun z => nomatch z⟩
        walk_at "WK"
        refine ⟨.lit v, rfl, hs', ?_⟩
        rintro d m ⟨rfl, rfl⟩
        refine ⟨rfl, ?_⟩
        walk_at "WK"
        refine ⟨fun _ => ?_, fun z => nomatch z⟩
        walk_at "WK"
        refine ⟨_, rfl, ?_⟩
        walk_at "WK"
        refine ⟨fun z => (nomatch z), fun _ => ?_⟩
        walk_at "WK"
        exact fin
    · rintro acc m' ⟨rfl, rfl⟩
      walk_at "WK"
      refine cw_all rfl (one_mk (ls_py ⟨_, rfl, ?_⟩))
      have e : (List.replicate ((pys l).map D.py).length true).all id = true := List.all_eq_true.mpr fun b hb => by rw [List.eq_of_mem_replicate hb]; rfl
      dsimp only
      rw [e]
      walk_at "WK"
      refine ⟨fun z => (nomatch z), fun _ => ?_⟩
      walk_at "WK"
      refine wz_att2 (K := c.K) rfl hk hx rfl cl a1 a2 (fun v w => ?_) ?_
      · rw [putF, putF, if_neg (by decide +kernel), putF]
      · walk_at "WK"
        refine ⟨(t, l), rfl, trivial, ?_⟩
        rintro d m ⟨rfl, rfl⟩
        exact ⟨rfl, rfl, rfl⟩
/-! ## its readers -/
end
end Wx

/-! ### part Vg -/
set_option Elab.async false
set_option linter.all false
set_option maxRecDepth 100000
set_option maxHeartbeats 1000000
set_option autoImplicit false
/-! Defs that run where nothing is being shown (no repr under way): repr of data is what it shows. -/
namespace Wx
open PySem L2 PyProof.Rows
structure FnG (P : Program) (w : World) (K : PySem.W.Frag) (mg : Str → Option Value) (base : Heap) (k : Nat) (f : Addr) (fd : FuncData) (ps : List Str) (sp : Sp) : Prop where
  len : ∀ vs H Q E, sp vs H Q E → vs.length = ps.length
  go : ∀ (A : Around) (outer : List Env) (s : Shared) (H : Hp) (args : Args) (us : List Value) (vs : List V) (Q : VK) (E : XK), Room k A → A.guards = some [] → Env0 P w K mg base A outer s H → BindsTo s fd args (ps.zip us) →
    Vals vs us → sp vs H Q E → codeAny (model P w) A (.call (.ref f) args) (CR CX0 outer P w H s Q E) s
section
variable {P : Program} {w : World} {K : PySem.W.Frag} {mg : Str → Option Value} {base : Heap} {k : Nat} {f : Addr} {fd : FuncData} {N ps : List Str} {sp : Sp} {x qual : Str} {params : Arguments} {body : List Stmt} {scope : Scope} {kws : List (Str × V)} {dvs : List V}
theorem fng_of (F : FunD K x qual params body scope dvs kws f fd) (S : FnScope N ps scope) (len : ∀ vs H Q E, sp vs H Q E → vs.length = ps.length)
    (rd : ∀ (cdv : Value) (A : Around) (outer : List Env) (s : Shared) (H : Hp) (vs : List V) (Q : VK) (E : XK), Room k (A.deeper (envOfC qual scope s.heap.objs.size f cdv)) → A.guards = some [] → sp vs H Q E →
      ∃ t, PSs (cxOf CX0 P w K mg base N qual scope f cdv A outer s H E) body t ∧ t { nx := fun _ H' => Q .non H', rt := Q } (L2.start N vs) H) : FnG P w K mg base (k + 1) f fd ps sp := by
  obtain ⟨oc, od, dV, kV, doc, pm, an, cdv, ct, osl, rfl, lk, hcd, _, _⟩ := F.ex
  constructor
  · exact len
  intro A outer s H args us vs Q E room gd e0 bt rv hsp
  have inK : K.In s.heap := e0.mod.kin.keeps fun b o z => (e0.bs b o z).1
  have nolim : s.heap.NoLimit := e0.mod.nolimit.keeps fun b o z => (e0.bs b o z).1
  have kinds : ∀ y ∈ ps.zip us, scope.names.lookup y.1 = some .local ∨ (scope.names.lookup y.1 = some .cell ∧ ((cellsFrom (s.heap.objs.size + 1) scope.names []).lookup y.1).isSome = true) := by
    rintro ⟨y, u⟩ hy
    rcases S.par y (List.of_mem_zip hy).1 with z | z
    · left; exact z
    · right; exact ⟨z, PySem.W.cellsFrom_some _ _ _ (.inl z)⟩
  refine codeAny_call_function room.depth (inK _ _ lk) rfl S.co S.gen rfl (PySem.W.codeRec_of inK hcd) (bt _ _ _ _ ?_)
  refine wpAny_newFunctionEnv_cells S.kind kinds fun env' eqE s2 started => ?_
  subst eqE
  refine ⟨nolim.keeps started.toInCall.keep, codeAny_func ?_⟩
  obtain ⟨t, dv, ht⟩ := rd cdv A outer s H vs Q E (room.deeper _) gd hsp
  have J0 : Inv (cxOf CX0 P w K mg base N qual scope f cdv A outer s H E) [] (L2.start N vs) H s2 := inv_start S room.hd e0 (len _ _ _ _ hsp) rv started
  refine wpAny_mono (dv.run [] s2 _ H _ J0 ht) (fun fl s3 post => ?_) fun _ _ z => z
  have leave : ∀ {τ : L2.St} {G : Hp} {v : V} {u : Value}, Inv (cxOf CX0 P w K mg base N qual scope f cdv A outer s H E) [] τ G s3 → RelV v u → Q v G → CE outer P w H s Q u s3 := fun {τ G v u} J r q =>
    ⟨v, G, J.os, J.bare, J.base, J.hok, r, q⟩
  cases fl with
  | next =>
    obtain ⟨τ, G, J, q⟩ := post
    exact leave (v := .non) (u := Value.none) J rfl q
  | ret u =>
    obtain ⟨v, τ, G, J, r, q⟩ := post
    exact leave J r q
  | brk => exact (post.choose_spec.choose_spec.2).elim
  | cont => exact (post.choose_spec.choose_spec.2).elim
end
structure StdG (P : Program) (w : World) (K : PySem.W.Frag) (mg : Str → Option Value) (base : Heap) (k : Nat) (x : Str) (ps : List Str) (sp : Sp) : Prop where
  ex : ∃ f fd, FnG P w K mg base k f fd ps sp ∧ mg x = some (.ref f) ∧ PySem.W.keepIn K (.ref f) = true ∧ Binds K fd ps []
theorem pe_stdG {X : Cx} {k : Nat} {x : Str} {ps : List Str} {sp : Sp} {e : Expr} {es : List Expr} {p pos : Pos} {t : TA} (F : StdG X.prog X.w X.K X.mg X.base k x ps sp) (hr : Room k X.A) (gd : X.A.guards = some []) (hg : Gl X x) (ha : PA X (e :: es) t) (hdb : (x == ("__debug__" : Str)) = false := by decide)
    (he : starEach (e :: es) X.env = (false, eval e X.env) :: starEach es X.env := by rfl) (hpl : (backTo pos (starEach es X.env)).any (·.1) = false := by rfl) : PE X (.Call (.Name x p) (e :: es) [] pos) (tCall sp [] E0 t) := by
  obtain ⟨f, fd, G, hm, kp, hb⟩ := F.ex
  constructor
  intro pins s σ H Q I h
  refine wpAny_Call_Name_kw (ld_glob I hg hm ?_ hdb)
  refine PySem.W.callWith_K (h₀ := X.base) I.ok.mod.kin kp (thn (ha.run pos pins s σ H _ I h) fun us s1 hv => ?_) he hpl
  obtain ⟨vs, H1, I1, r, q⟩ := hv
  have q1 : sp vs H1 Q E0 := by
    have q0 : sp (vs ++ []) H1 Q E0 := q
    rw [List.append_nil] at q0
    exact q0
  refine ⟨I1.kIn, wpAny_call (codeAny_mono (G.go X.A X.stack s1 H1 ⟨us, []⟩ us vs Q E0 hr gd I1.env0 (by
    have z := hb s1 us I1.kIn (by rw [List.append_nil, ← r.length]; exact G.len _ _ _ _ q1)
    rw [List.append_nil] at z
    exact z) r q1) fun res s2 z => ?_)⟩
  cases res with
  | error er => exact False.elim z
  | ok fl =>
    cases fl with
    | ret u => exact I1.after z
    | next => exact False.elim z
    | brk => exact False.elim z
    | cont => exact False.elim z

/-! ## the head -/
section
variable {P : Program} {w : World} {K : PySem.W.Frag} {mg mb : Str → Option Value} {k : Nat} {fa a : Addr} {fd : FuncData} {x : Str} {sp : Sp} {s1 : Shared} {vs : List Value} {ns : List Int}
/-- one abstract heap that holds at most the script -/
structure Stage (K : PySem.W.Frag) (P : Program) (w : World) (h : Heap) (a : Addr) (ns : List Int) (H : Hp) : Prop where
  only : Only H
  seq : SqL K H a (ns.map V.int)
  ok : HOk P w H h
  at_ : ∀ b, H b ≠ none → b = a
  out : H a ≠ none → K.lookup a = none
theorem stage (KX : K.In s1.heap) (ha : s1.heap.get? a = some { cls := .type "list", data := .seq vs.toArray }) (hi : IntsAre vs ns) (hl : ns.length ≤ sizeLine) : ∃ H, Stage K P w s1.heap a ns H := by
  have rv := vals_ints hi
  cases q : K.lookup a with
  | some o =>
    have e := KX a o q
    rw [ha] at e
    cases e
    refine ⟨fun _ => none, fun _ => .inl rfl, .inr ⟨_, vs.toArray, _, q, rfl, rfl, rfl, ?_, by simpa using rv⟩, fun b u z => (nomatch z), fun b z => absurd rfl z, fun z => absurd rfl z⟩
    rw [List.size_toArray, hi.length]
    exact hl
  | none =>
    refine ⟨upd (fun _ => none) a (.frz { cls := .type "list", data := .seq vs.toArray } (.lst (ns.map V.int))), fun b => ?_, .inl (.inr ⟨_, upd_same⟩), fun b u z => ?_, fun b z => ?_, fun _ => q⟩
    · by_cases e : b = a
      · subst e
        exact .inr ⟨_, _, upd_same⟩
      · exact .inl (upd_ne e)
    · by_cases e : b = a
      · subst e
        rw [upd_same] at z
        cases z
        exact ⟨ha, by rw [List.length_map]; exact hl, vs, _, rv, ha⟩
      · rw [upd_ne e] at z
        cases z
    · by_cases e : b = a
      · exact e
      · exact absurd (upd_ne e) z
theorem law_go (KX : K.In s1.heap) (hns : s1.heap.Ns mainGlobals mg) (hb : s1.heap.Ns builtinsNs mb) (hbb : ∀ x : Str, x ≠ "__name__" → mb x = bootBuiltins x) (hlim : s1.heap.NoLimit) (hg : s1.gens = #[])
    (ha : s1.heap.get? a = some { cls := .type "list", data := .seq vs.toArray }) (hi : IntsAre vs ns) (hl : ns.length ≤ sizeLine) (room : Room k callerA)
    (F : ∀ base : Heap, K.In base → base.Ns mainGlobals mg → FnG P w K mg base k fa fd [x] sp) (bt : ∀ (s : Shared) (u : Value), BindsTo s fd ⟨[u], []⟩ [(x, u)])
    (pr : ∀ H : Hp, Only H → SqL K H a (ns.map V.int) → sp [.ref a] H (fun v _ => v = .bl true) E0) :
    codeAny (model P w) callerA (.call (.ref fa) ⟨[.ref a], []⟩) (fun r s' => r = .ok (.ret (.bool true)) ∧ OldK s1.heap s'.heap ∧ s'.os = s1.os ∧ AllBare s'.gens) s1 := by
  obtain ⟨H, st⟩ := stage (P := P) (w := w) KX ha hi hl
  have free : ∀ {b : Addr} {o : Obj}, s1.heap.get? b = some o → (b = a → False) → H b = none := fun {b o} _ ne => Classical.byContradiction fun z => ne (st.at_ b z)
  have dicts : ∀ {b : Addr} {m : Str → Option Value}, s1.heap.Ns b m → (hidT s1.heap H).Ns b m := fun {b m} z => by
    obtain ⟨o, es, ep, e, d, r⟩ := z
    refine ⟨o, es, ep, hidT_get e (free e fun q => ?_), d, r⟩
    subst q
    rw [ha] at e
    cases e
    exact nomatch d
  have part : K.In (hidT s1.heap H) := fun b o e => hidT_get (KX b o e) (by
    by_cases z : H b = none
    · exact z
    · have q := st.at_ b z
      subst q
      rw [st.out z] at e
      cases e)
  obtain ⟨mc, c1, c2⟩ := hlim
  have env : Env0 P w K mg (hidT s1.heap H) callerA [] s1 H :=
    { frames := rfl, mod := { kin := part, glob := dicts hns, blt := ⟨mb, dicts hb, hbb⟩, nolimit := ⟨mc, dicts c1, c2⟩ }, bs := fun b o e => of_hidT e, bsz := Nat.le_of_eq (hidT_size _ _), funs := trivial, frf := fun b z => (nomatch z), hok := st.ok, bare := .of_eq hg }
  have G := F _ part (dicts hns)
  refine codeAny_mono (G.go callerA [] s1 H ⟨[.ref a], []⟩ [.ref a] [.ref a] (fun v _ => v = .bl true) E0 room rfl env (bt s1 (.ref a)) (.cons rfl .nil) (pr H st.only st.seq)) fun res s2 z => ?_
  cases res with
  | error er => exact False.elim z
  | ok fl =>
    cases fl with
    | next => exact False.elim z
    | brk => exact False.elim z
    | cont => exact False.elim z
    | ret u =>
      obtain ⟨v, G', eos, bare, un, gok, rv, ev⟩ := z
      have ev' : v = .bl true := ev
      subst ev'
      cases rv
      refine ⟨rfl, OldK.of_keep fun b o e => ?_, eos, bare⟩
      rcases st.only b with q | ⟨ob, xs, q⟩
      · exact un.keep b o e q (fun y => nomatch y) (fun y => nomatch y)
      · have q2 := un.frzs b ob _ q
        have e1 := (st.ok b _ q).1
        rw [e] at e1
        cases e1
        exact (gok b _ q2).1
theorem walk_go {l : PySem.W.OpenLaw} {n : Nat} {q : Program} {loose : List Str} {XP : (Str → Option Value) → Heap → Prop} {YP : World → Heap → Prop} {d : DefRec} (hn : l.most = some n) (hn2 : n ≤ sizeLine) (hd : d.params.defaults = []) (room : Room k callerA)
    (F : ∀ (w : World) (mg : Str → Option Value) (fa : Addr) (h : Heap), YP w h → h.Ns mainGlobals mg → mg d.name = some (.ref fa) →
      ∃ (K : PySem.W.Frag) (fd : FuncData) (sp : Sp), K.In h ∧ (∀ (s : Shared) (u : Value), BindsTo s fd ⟨[u], []⟩ [(x, u)]) ∧ (∀ (H : Hp) (a : Addr) (ns : List Int), ns.length ≤ n → Only H → SqL K H a (ns.map V.int) → sp [.ref a] H (fun v _ => v = .bl true) E0) ∧
        ∀ base : Heap, K.In base → base.Ns mainGlobals mg → FnG l.prog w K mg base k fa fd [x] sp) : PySem.W.WalkO q loose XP YP l.row.toRowW d [] (fun f vs => PySem.call f vs) := by
  apply Att.attach_call hn hd
  intro w s0 s1 mg mb fa o pm cd doc a vs ns G Y ho hdd hcd hmg hobj hints hlen hg
  obtain ⟨K, fd, sp, KX, bt, pr, hF⟩ := F w mg fa _ Y G.T.g hmg
  exact law_go KX G.T.g G.T.b G.T.builtins G.T.nolimit hg hobj hints (Nat.le_trans hlen hn2) room hF bt fun H hO hS => pr H a ns hlen hO hS
end
end Wx

/-! ### part Vr -/
set_option Elab.async false
set_option linter.all false
set_option maxRecDepth 100000
set_option maxHeartbeats 1000000
set_option autoImplicit false
/-! What can be shown, and how long it is. -/
namespace Wx
open PySem L2
structure Sh (k W : Nat) (d : PyData) : Prop where
  sh : d.showable = true
  nd : d.hasDict = false
  lv : d.leavesShort 80 = true
  dp : d.depth ≤ k
  wt : d.weight ≤ W
structure ShL (k W : Nat) (ds : List PyData) : Prop where
  sh : PyData.showableAll ds = true
  nd : PyData.hasDictAll ds = false
  lv : PyData.leavesShortAll 80 ds = true
  dp : PyData.depthAll ds ≤ k
  wt : PyData.weightAll ds ≤ W
theorem Sh.len {k W : Nat} {d : PyData} (h : Sh k W d) (hW : W ≤ 200000) : d.shown.length ≤ sizeLine := by
  have h1 := PyData.shown_le 80 (by decide) d h.lv
  have h2 := h.wt
  have e : sizeLine = 16777216 := by decide
  rw [e]
  have h3 : (80 + 2) * d.weight ≤ 82 * 200000 := Nat.mul_le_mul_left 82 (Nat.le_trans h2 hW)
  omega
theorem shl_nil {k : Nat} : ShL k 0 [] := ⟨rfl, rfl, rfl, Nat.zero_le _, Nat.le_refl _⟩
theorem shl_cons {k W V : Nat} {d : PyData} {ds : List PyData} (h : Sh k W d) (t : ShL k V ds) : ShL k (W + 1 + V) (d :: ds) := by
  refine ⟨?_, ?_, ?_, ?_, ?_⟩
  · rw [PyData.showableAll, h.sh, t.sh]; rfl
  · rw [PyData.hasDictAll, h.nd, t.nd]; rfl
  · rw [PyData.leavesShortAll, h.lv, t.lv]; rfl
  · rw [PyData.depthAll]; have := h.dp; have := t.dp; omega
  · rw [PyData.weightAll]; have := h.wt; have := t.wt; omega
theorem sh_tup {k W : Nat} {ds : List PyData} (t : ShL k W ds) : Sh (k + 1) W (.tuple ds) :=
  ⟨by rw [PyData.showable]; exact t.sh, by rw [PyData.hasDict]; exact t.nd, by rw [PyData.leavesShort]; exact t.lv, by rw [PyData.depth]; have := t.dp; omega, by rw [PyData.weight]; exact t.wt⟩
theorem sh_int {k : Nat} {i : Int} (h : i.natAbs < 10 ^ 70) : Sh k 240 (.int i) := by
  have b : i.natAbs.log2 < 239 := PySem.Flt.log2_lt_of (by decide) (Nat.lt_of_lt_of_le h (by decide))
  refine ⟨by rw [PyData.showable]; exact decide_eq_true (by omega), by rw [PyData.hasDict], ?_, by rw [PyData.depth]; omega, by rw [PyData.weight]; split <;> omega⟩
  rw [PyData.leavesShort]
  have e := int_text_length_le10 (k := 70) (by decide) h
  refine decide_eq_true ?_
  show (Str.ofString (toString i)).length ≤ 80
  rw [ofString_length]
  omega
theorem sh_mono {k l W V : Nat} {d : PyData} (h : Sh k W d) (h1 : k ≤ l) (h2 : W ≤ V) : Sh l V d := ⟨h.sh, h.nd, h.lv, Nat.le_trans h.dp h1, Nat.le_trans h.wt h2⟩
def smS : Src → Prop
  | .inp p => p.natAbs < 10 ^ 70
  | .lit v => v.natAbs < 10 ^ 70
theorem sh_src {s : Src} (h : smS s) : Sh 1 245 s.py := by
  have a1 : Sh 0 2 (.str (Str.ofString "in")) := ⟨rfl, rfl, by decide +kernel, by decide +kernel, by decide +kernel⟩
  have a2 : Sh 0 3 (.str (Str.ofString "lit")) := ⟨rfl, rfl, by decide +kernel, by decide +kernel, by decide +kernel⟩
  cases s with
  | inp p => exact sh_mono (sh_tup (shl_cons a1 (shl_cons (sh_int h) shl_nil))) (by decide) (by decide)
  | lit p => exact sh_mono (sh_tup (shl_cons a2 (shl_cons (sh_int h) shl_nil))) (by decide) (by decide)
/-! ## the rules -/
section
variable {c : Cy} {Φ : D → Nat → Prop} {n : Nat} {K : PySem.W.Frag}
theorem rw_neS {x y : Str} (h : Φ (.py (.bool (!decide (x = y)))) n) : Rw c rNe (.py (.str x)) (.py (.str y)) n Φ := ⟨fun A H v1 v2 a x1 x2 Q k => by
  cases Da.str_eq x1
  cases Da.str_eq x2
  have e : decide (V.str x = V.str y) = decide (x = y) := by
    rw [decide_eq_decide]
    exact ⟨fun z => V.str.inj z, fun z => by rw [z]⟩
  refine ⟨rfl, ?_⟩
  rw [e]
  exact k _ H _ n h Ek.refl a.good (.bl _)⟩
theorem rw_neSS {x : Str} (h : Φ (.py (.bool false)) n) : Rw c rNe (.py (.str x)) (.py (.str x)) n Φ := rw_neS (by rw [decide_eq_true rfl]; exact h)
end
end Wx

/-! ### part V6 -/
set_option Elab.async false
set_option linter.all false
set_option maxRecDepth 100000
set_option maxHeartbeats 1000000
set_option autoImplicit false
namespace Wx
open PySem L2

section
variable {P : Program} {w : World} {K : PySem.W.Frag} {mg : Str → Option Value} {base : Heap} {f C : Addr} {fd : FuncData}
abbrev sp_Effect_taken (K : PySem.W.Frag) (C : Addr) : Sp := SpX (ι := Int × List Src) K (fun x => [effD C x.1 x.2]) (fun _ _ => True) fun x n d m => d = .py (.int x.1) ∧ m = n
theorem ln_Effect_taken (x : Int × List Src) : [effD C x.1 x.2].length = 1 := rfl
theorem nm_Effect_taken (x : Int × List Src) : [effD C x.1 x.2].all D.nm = true := rfl
theorem sc_Effect_taken : FnScope ["self"] ["self"] (defScope (meth 73 1)) := ⟨rfl, rfl, rfl, by decide +kernel, rfl, by decide +kernel, by decide +kernel⟩
theorem ok_Effect_taken (F : FnP K "taken" "Effect.taken" (meth 73 1) f fd) (kc : KitC K C) (a1 : NoAttr K C "kept_taken") (a2 : NoAttr K C "kept_left") (gE : mg "Effect" = some (.ref C)) : FnOk P w K mg base CX0 1 f fd ["self"] (sp_Effect_taken K C) := by
  refine F.ok sc_Effect_taken (sx_len ln_Effect_taken) (fun cdv A outer s H vs Q E hr h => ?_)
  have nd := sc_Effect_taken.nd
  refine ⟨_, PSs.nox (pss_one (ps_ret (pe_fld (pv 0) rfl))), ?_⟩
  refine body_x nm_Effect_taken ?_ vs H Q E h
  clear h hr
  intro c n x hK hp
  (subst hK)
  try clear gE F
  walk_at "WK"
  exact ⟨C, _, _, rfl, kc.cl, a1, rfl, rfl, rfl⟩
abbrev sp_Effect_left (K : PySem.W.Frag) (C : Addr) : Sp := SpX (ι := Int × List Src) K (fun x => [effD C x.1 x.2]) (fun _ _ => True) fun x n d m => d = .py (srcs x.2) ∧ m = n
theorem ln_Effect_left (x : Int × List Src) : [effD C x.1 x.2].length = 1 := rfl
theorem nm_Effect_left (x : Int × List Src) : [effD C x.1 x.2].all D.nm = true := rfl
theorem sc_Effect_left : FnScope ["self"] ["self"] (defScope (meth 73 2)) := ⟨rfl, rfl, rfl, by decide +kernel, rfl, by decide +kernel, by decide +kernel⟩
theorem ok_Effect_left (F : FnP K "left" "Effect.left" (meth 73 2) f fd) (kc : KitC K C) (a1 : NoAttr K C "kept_taken") (a2 : NoAttr K C "kept_left") (gE : mg "Effect" = some (.ref C)) : FnOk P w K mg base CX0 1 f fd ["self"] (sp_Effect_left K C) := by
  refine F.ok sc_Effect_left (sx_len ln_Effect_left) (fun cdv A outer s H vs Q E hr h => ?_)
  have nd := sc_Effect_left.nd
  refine ⟨_, PSs.nox (pss_one (ps_ret (pe_fld (pv 0) rfl))), ?_⟩
  refine body_x nm_Effect_left ?_ vs H Q E h
  clear h hr
  intro c n x hK hp
  (subst hK)
  try clear gE F
  walk_at "WK"
  exact ⟨C, _, _, rfl, kc.cl, a2, rfl, rfl, rfl⟩
abbrev sp_Effect_growth (K : PySem.W.Frag) (C : Addr) : Sp := SpX (ι := Int × List Src) K (fun x => [effD C x.1 x.2]) (fun _ _ => True) fun x n d m => d = .py (.int (x.2.length - x.1)) ∧ m = n
theorem ln_Effect_growth (x : Int × List Src) : [effD C x.1 x.2].length = 1 := rfl
theorem nm_Effect_growth (x : Int × List Src) : [effD C x.1 x.2].all D.nm = true := rfl
theorem sc_Effect_growth : FnScope ["self"] ["self"] (defScope (meth 73 3)) := ⟨rfl, rfl, rfl, by decide +kernel, rfl, by decide +kernel, by decide +kernel⟩
theorem ok_Effect_growth (F : FnP K "growth" "Effect.growth" (meth 73 3) f fd) (g_len : mg "len" = none) (kc : KitC K C) (a1 : NoAttr K C "kept_taken") (a2 : NoAttr K C "kept_left") (gE : mg "Effect" = some (.ref C)) : FnOk P w K mg base CX0 1 f fd ["self"] (sp_Effect_growth K C) := by
  refine F.ok sc_Effect_growth (sx_len ln_Effect_growth) (fun cdv A outer s H vs Q E hr h => ?_)
  have nd := sc_Effect_growth.nd
  refine ⟨_, PSs.nox (pss_one (ps_ret (pe_op op_sub (pe_callB (lenK (K := K) rfl) rfl g_len PySem.boot_len (pa_cons (pe_fld (pv 0) rfl) (pa_nil))) (pe_fld (pv 0) rfl)))), ?_⟩
  refine body_x nm_Effect_growth ?_ vs H Q E h
  clear h hr
  intro c n x hK hp
  (subst hK)
  try clear g_len gE F
  walk_at "WK"
  refine ⟨C, _, _, rfl, kc.cl, a2, rfl, ?_⟩
  walk_at "WK"
  refine ⟨C, _, _, rfl, kc.cl, a1, rfl, ?_⟩
  walk_at "WK"
  rw [pys_len]
  exact ⟨rfl, rfl⟩
/-- the other of a comparison: an effect, data, some list -/
def oD (C : Addr) : (Int × List Src) ⊕ Option PyData → D
  | .inl x => effD C x.1 x.2
  | .inr (some p) => .py p
  | .inr none => .lsx
/-! ## source -/
abbrev sp_require_depth (K : PySem.W.Frag) : Sp := SpX (ι := Int) K (fun x => [.py (.int x)]) (fun x _ => 0 ≤ x) fun _ n d m => d = .py .none ∧ m = n
theorem ln_require_depth (x : Int) : [D.py (.int x)].length = 1 := rfl
theorem nm_require_depth (x : Int) : [D.py (.int x)].all D.nm = true := rfl
theorem sc_require_depth : FnScope ["value"] ["value"] (defScope (top 62)) := ⟨rfl, rfl, rfl, by decide +kernel, rfl, by decide +kernel, by decide +kernel⟩
theorem ok_require_depth (F : FnP K "require_depth" "require_depth" (top 62) f fd) (S_is_int : Std P w K mg base 1 "is_int" ["value"] (sp_is_int K)) : FnOk P w K mg base CX0 2 f fd ["value"] (sp_require_depth K) := by
  refine F.ok sc_require_depth (sx_len ln_require_depth) (fun cdv A outer s H vs Q E hr h => ?_)
  have nd := sc_require_depth.nd
  refine ⟨_, PSs.nox (pss_one (ps_if (PW.pt (pw_or (pt_not (truK (K := K) rfl (pe_std S_is_int hr rfl (pa_cons (pv 0) (pa_nil))) (by intro _; rfl))) (pw_or1 (pt_cmpR op_lt (pv 0) (pe_int) (nomark _))))) (pss_one (ps_never)) (pss_nil))), ?_⟩
  refine body_x nm_require_depth ?_ vs H Q E h
  clear h hr
  intro c n x hK hp
  (subst hK)
  try clear S_is_int F
  have hp' : 0 ≤ x := hp
  walk_at "WK"
  refine ⟨x, rfl, trivial, ?_⟩
  rintro d m ⟨rfl, rfl⟩
  refine ⟨rfl, ?_⟩
  walk_at "WK"
  refine ⟨fun _ => ?_, fun z => nomatch z⟩
  walk_at "WK"
  rw [decide_eq_false (show ¬ x < 0 by omega)]
  refine ⟨fun z => (nomatch z), fun _ => ?_⟩
  walk_at "WK"
  exact rfl
end
end Wx

/-! ### part Vs -/
set_option Elab.async false
set_option linter.all false
set_option maxRecDepth 100000
set_option maxHeartbeats 1000000
set_option autoImplicit false
/-! More rules: sums of lists, ranges as lists, a written list that is walked, a new draws' list. -/
namespace Wx
open PySem L2
section
variable {c : Cy} {sl : List Slo} {nn : Nat} {ta tb : TE} {Φ : D → Nat → Prop} {Ψ : Ow → Nat → Prop} {K : PySem.W.Frag}
theorem lsi_out {m : Bool} {ds : List PyData} {k : List PyData → Prop} (h : k ds) : LsI m (outO (.lst ds)) k := h
theorem lsi_py {ds : List PyData} {m : Bool} {k : List PyData → Prop} (h : k ds) : LsI m (.py (.list ds)) k := h
theorem sq_out {ds : List PyData} {k : List PyData → Prop} (h : k ds) : Sq (outO (.lst ds)) k := h
theorem pd_out {ds : List PyData} {k : PyData → Prop} (h : k (.list ds)) : Pd (outO (.lst ds)) k := h
/-- a list of whatever -/
theorem wp_lsx {ta : TA} (h : Wa c ta ⟨sl, nn⟩ fun ds n => ds.length ≤ sizeLine ∧ Φ .lsx n) : Wp c (tLst ta) ⟨sl, nn⟩ Φ := ⟨fun σ A H o Q k => by
  refine h.run σ A H o _ fun vs H1 ds n p e1 g1 x => ?_
  exact ⟨by rw [x.len]; exact p.1, fun r hr => k _ _ _ n p.2 (e1.trans (Ek.new hr)) (g1.new hr) ⟨r, vs, rfl, (o.keep e1 g1).fresh hr, upd_same⟩⟩⟩
theorem wp_lsx1 {i : Nat} {C : Addr} {fs : List (Str × PyData)} (h0 : sl[i]? = some (.val (.ins C fs))) (h : Φ .lsx nn) : Wp c (tLst (tCons (tVar i) tNil)) ⟨sl, nn⟩ Φ := wp_lsx (wa_cons (wp_var h0 (wa_nil ⟨by show 1 ≤ sizeLine; decide, h⟩)))
def wlk : D → Bool
  | .py _ => true
  | .ins _ _ => true
  | .lsx => true
  | .obj _ => true
  | .atom _ => true
  | _ => false
theorem FsR.to {K : PySem.W.Frag} {A B : Addr → Prop} {H H' : Hp} (k : Kept A H H') (w : ∀ a, B a → A a ∨ H a = none) : ∀ {vs : List (Str × V)} {fs : List (Str × PyData)}, FsR K A H vs fs → FsR K B H' vs fs
  | [], [], _ => True.intro
  | (x, v) :: r, (y, d) :: s, ⟨e, h, t⟩ => ⟨e, Da.to k w h, FsR.to k w t⟩
  | [], _ :: _, h => h.elim
  | _ :: _, [], h => h.elim
theorem DX.to {A B : Addr → Prop} {H H' : Hp} {v : V} {d : D} (k : Kept A H H') (w : ∀ a, B a → A a ∨ H a = none) (hd : wlk d = true) (x : DX c A H v d) : DX c B H' v d := by
  cases d with
  | py p => exact Da.to k w x
  | ins C fs =>
    obtain ⟨b, dx, ws, q, n, r, t⟩ := x
    exact ⟨b, dx, ws, q, fun z => (w b z).elim n (fun y => by rw [r] at y; cases y), k b _ n r, t.to k w⟩
  | lsx =>
    obtain ⟨b, ws, q, n, r⟩ := x
    exact ⟨b, ws, q, fun z => (w b z).elim n (fun y => by rw [r] at y; cases y), k b _ n r⟩
  | obj φ =>
    obtain ⟨b, ws, q, ⟨n, fφ⟩, r⟩ := x
    exact ⟨b, ws, q, ⟨fun z => (w b z).elim n (fun y => by rw [r] at y; cases y), fφ⟩, k b _ n r⟩
  | atom w => exact x
  | _ => cases hd
theorem DXs.at_ {A : Addr → Prop} {H : Hp} : ∀ {vs : List V} {ds : List D} {i : Nat} {v : V}, DXs c A H vs ds → vs[i]? = some v → ∃ d, ds[i]? = some d ∧ DX c A H v d
  | [], [], i, v, _, e => by simp at e
  | v :: vs, d :: ds, 0, u, ⟨h, t⟩, e => by simp at e; subst e; exact ⟨d, rfl, h⟩
  | v :: vs, d :: ds, i + 1, u, ⟨h, t⟩, e => by
    obtain ⟨d', h1, h2⟩ := DXs.at_ (i := i) t (by simpa using e)
    exact ⟨d', by simpa using h1, h2⟩
  | [], _ :: _, _, _, h, _ => h.elim
  | _ :: _, [], _, _, h, _ => h.elim
/-- for x in [a, b, ..] -/
theorem wi_lit {ta : TA} {m : Bool} {Θ : List D → Nat → Prop} (hK : K = c.K) (h : Wa c ta ⟨sl, nn⟩ fun ds n => ds.length ≤ sizeLine ∧ ds.all wlk = true ∧ Θ ds n) : Wi c m (iList K (tLst ta)) ⟨sl, nn⟩ Θ := ⟨fun σ A H o R k => by
  subst hK
  refine h.run σ A H o _ fun vs H1 ds n p e1 g1 x => ?_
  obtain ⟨p1, p2, p3⟩ := p
  have o1 := o.keep e1 g1
  refine ⟨by rw [x.len]; exact p1, fun r hr => ?_⟩
  have nA : ¬ A r := o1.fresh hr
  have e2 : Ek c H1 (upd H1 r (.lst vs)) := Ek.new hr
  have x2 : DXs c A (upd H1 r (.lst vs)) vs ds := x.keep e2 o.k
  have st : ∀ H', Kept (Mm c m σ ⟨sl, nn⟩) (upd H1 r (.lst vs)) H' → SqL c.K H' r vs := fun H' kk => SqL.of (kk r _ (fun z => nA (Mm.sub o r z)) upd_same)
  refine ⟨r, rfl, ⟨vs, SqL.of upd_same⟩, k _ _ ds n p3 (e1.trans e2) (g1.new hr) ⟨fun H' i kk hi => ?_, fun H' i kk hi => ?_, fun H' i v H'' kk hi y => ?_⟩⟩
  · rw [← x.len] at hi
    exact ⟨vs, vs[i], st H' kk, by simp [hi]⟩
  · rw [← x.len] at hi
    exact ⟨vs, st H' kk, hi⟩
  · obtain ⟨rfl, y⟩ := y
    obtain ⟨d, h1, h2⟩ := x2.at_ (y vs (st _ kk))
    exact ⟨d, h1, .inl rfl, fun B w _ _ => h2.to (kk.mono fun a z => Mm.sub o a z) w (List.all_eq_true.mp p2 d (List.mem_of_getElem? h1))⟩⟩
/-- kiln = a new draws' list -/
abbrev spKiln (K : PySem.W.Frag) : Sp := fun vs H Q _ => ∃ a ns k, vs = [.ref a, .int k] ∧ SqL K H a (List.map V.int ns) ∧ 0 ≤ k ∧ k ≤ 100 ∧
  ∀ x y p, 0 ≤ x → 0 ≤ y → y < 2 ^ 300 → H p = none → Q (.ref p) (upd H p (.lst [.int x, .int y, .int 0]))
def noK (sl : List Slo) : Bool := sl.all fun s => match s with
  | .val .kln => false
  | _ => true
theorem noK_at {sl : List Slo} (h : noK sl = true) {i : Nat} (z : sl[i]? = some (.val .kln)) : False := by
  have := List.all_eq_true.mp h _ (List.mem_of_getElem? z)
  cases this
theorem own_emp2 {σ : L2.St} {i : Nat} {a : Addr} (h : ownA σ (sl.set i .emp) a) : ownA σ sl a := by
  obtain ⟨j, ds, h1, h2⟩ := h
  by_cases q : i = j
  · subst q
    rw [List.getElem?_set] at h1
    split at h1
    · split at h1 <;> cases h1
    · rename_i z; exact absurd rfl z
  · rw [List.getElem?_set_ne q] at h1
    exact ⟨j, ds, h1, h2⟩
theorem ws_kln {K : PySem.W.Frag} {i is ik : Nat} {ns : List Int} {k : Int} {u : TS} {P : Po} (hK : K = c.K) (hn : c.k = none) (h1 : sl[is]? = some (.val (.py (.list (ns.map PyData.int))))) (h2 : sl[ik]? = some (.val (.py (.int k)))) (k0 : 0 ≤ k) (k1 : k ≤ 100) (hi : i < sl.length) (hnk : noK sl = true)
    (h : ∀ c' : Cy, c'.K = c.K → Ws c' u ⟨sl.set i (.val .kln), 0⟩ ⟨fun e' => noK (e'.sl.set i .emp) = true ∧ i < e'.sl.length ∧ P.nx ⟨e'.sl.set i .emp, nn⟩, fun d _ => (∃ p, d = .py p) ∧ P.rt d nn, fun e' => noK (e'.sl.set i .emp) = true ∧ i < e'.sl.length ∧ P.bk ⟨e'.sl.set i .emp, nn⟩, fun e' => noK (e'.sl.set i .emp) = true ∧ i < e'.sl.length ∧ P.ct ⟨e'.sl.set i .emp, nn⟩⟩) :
    Ws c (tSeq (tAsg (tCall (spKiln K) [] E0 (tCons (tVar is) (tCons (tVar ik) tNil))) (gName i)) u) ⟨sl, nn⟩ P := ⟨fun σ A H o Dn nx rt bk ct => by
  subst hK
  obtain ⟨_, v1, s1, x1⟩ := o.val is _ h1
  obtain ⟨_, v2, s2, x2⟩ := o.val ik _ h2
  cases Da.int_eq x2
  obtain ⟨a, xs, rfl, hs, t⟩ := Da.list_at x1
  have isV : ∀ {xs : List V} {ns : List Int}, DaL c.K A H xs (ns.map PyData.int) → xs = ns.map V.int := by
    intro xs
    induction xs with
    | nil =>
      intro ns h
      cases ns with
      | nil => rfl
      | cons _ _ => cases h
    | cons x xs ih =>
      intro ns h
      cases ns with
      | nil => cases h
      | cons m ns =>
        cases h with
        | cons y z =>
          cases Da.int_eq y
          rw [ih z]
          rfl
  rw [isV t] at hs
  refine ⟨.ref a, s1, .int k, s2, a, ns, k, rfl, hs, k0, k1, fun x y p hx hy hy2 hp => ?_⟩
  have nA : ¬ A p := fun z => o.al p z hp
  have nS : ¬ c.S0 p := fun z => nA (o.sub p (.inl z))
  let c' : Cy := ⟨c.K, some p, fun b => c.S0 b ∨ b = p, fun b z => .inr (Option.some.inj z).symm⟩
  have e1 : Ek c H (upd H p (.lst [.int x, .int y, .int 0])) := Ek.new hp
  have kA : Kept A H (upd H p (.lst [.int x, .int y, .int 0])) := fun b u nb q => by rw [upd_ne (ne_of_none q hp)]; exact q
  have oc : ∀ {b : Addr}, ownA (σ.set i (some (.ref p))) (sl.set i (.val .kln)) b → ownA σ sl b := fun {b} z => own_set (e := ⟨sl, nn⟩) z
  have o2 : Ok c' (fun b => A b ∨ b = p) (upd H p (.lst [.int x, .int y, .int 0])) (σ.set i (some (.ref p))) ⟨sl.set i (.val .kln), 0⟩ := by
    refine ⟨by rw [List.length_set, List.length_set]; exact o.len, ⟨fun b z => ?_, fun b z => ?_⟩, fun b z => ?_, fun b z => ?_, fun j d z => ?_, fun j w z => ?_, fun j l w w' b q1 q2 q3 q4 => ?_⟩
    · rcases z with z | z
      · exact (o.good.new hp).al b z
      · rw [z, upd_same]; exact fun q => nomatch q
    · have q : p = b := Option.some.inj z
      rw [← q]
      exact ⟨x, y, 0, upd_same, hx, hy, hy2, Int.le_refl _, Int.le_refl _⟩
    · rcases z with z | z
      · rcases z with z | z
        · exact .inl (o.sub b (.inl z))
        · exact .inr z
      · exact .inl (o.sub b (.inr (oc z)))
    · rcases z with z | z
      · cases q : H b with
        | none => exact absurd q (o.al b z)
        | some u => rw [upd_ne (ne_of_none q hp), q]; exact fun q => nomatch q
      · rw [z, upd_same]; exact fun q => nomatch q
    · by_cases q : i = j
      · subst q
        have z' : (sl.set i (Slo.val .kln))[i]? = some (Slo.val d) := z
        rw [List.getElem?_set_self hi] at z'
        cases z'
        exact ⟨rfl, .ref p, by rw [List.getElem?_set_self (by rw [o.len]; exact hi)], p, rfl, rfl⟩
      · have z' : sl[j]? = some (Slo.val d) := by rw [← List.getElem?_set_ne q]; exact z
        obtain ⟨nm, v, q1, q2⟩ := o.val j d z'
        refine ⟨nm, v, by rw [List.getElem?_set_ne q]; exact q1, ?_⟩
        have kp : Kept (fun b => A b ∨ b = p) H (upd H p (.lst [.int x, .int y, .int 0])) := fun b u nb z => kA b u (fun y => nb (.inl y)) z
        cases d with
        | py r => exact Da.keep kp (Da.apart hp q2)
        | mine r => cases nm
        | dct ds =>
          obtain ⟨b, kvs, w1, w2, w3, w4⟩ := q2
          have nb : ¬ (A b ∨ b = p) := fun z => z.elim w2 fun y => by rw [y, hp] at w3; cases w3
          exact ⟨b, kvs, w1, nb, kA b _ w2 w3, (w4.apart hp).keep kp⟩
        | dcl ds =>
          obtain ⟨b, kvs, od, w1, w2, w3, w4⟩ := q2
          have nb : ¬ (A b ∨ b = p) := fun z => z.elim w2 fun y => by rw [y, hp] at w3; cases w3
          exact ⟨b, kvs, od, w1, nb, kA b _ w2 w3, (w4.apart hp).keep kp⟩
        | brw ds =>
          obtain ⟨b, ys, w1, w2, w3, w4, w5⟩ := q2
          exact ⟨b, ys, w1, fun z => nS (by rw [Option.some.inj z]; exact w3), .inl w3, by rw [upd_ne (ne_of_none w4 hp)]; exact w4, (w5.apart hp).keep kp⟩
        | ins C fs =>
          obtain ⟨b, dx, ws, w1, w2, w3, w4⟩ := q2
          have nb : ¬ (A b ∨ b = p) := fun z => z.elim w2 fun y => by rw [y, hp] at w3; cases w3
          exact ⟨b, dx, ws, w1, nb, kA b _ w2 w3, (w4.apart hp).keep kp⟩
        | atom w => exact q2
        | kln => exact (noK_at hnk z').elim
        | lsx =>
          obtain ⟨b, ws, w1, w2, w3⟩ := q2
          have nb : ¬ (A b ∨ b = p) := fun z => z.elim w2 fun y => by rw [y, hp] at w3; cases w3
          exact ⟨b, ws, w1, nb, kA b _ w2 w3⟩
        | obj φ =>
          obtain ⟨b, ws, w1, ⟨w2, fφ⟩, w3⟩ := q2
          have nb : ¬ (A b ∨ b = p) := fun z => z.elim w2 fun y => by rw [y, hp] at w3; cases w3
          exact ⟨b, ws, w1, ⟨nb, fφ⟩, kA b _ w2 w3⟩
    · have q : i ≠ j := fun q => by
        subst q
        have z' : (sl.set i (Slo.val .kln))[i]? = some (Slo.own w) := z
        rw [List.getElem?_set_self hi] at z'
        cases z'
      have z' : sl[j]? = some (Slo.own w) := by rw [← List.getElem?_set_ne q]; exact z
      obtain ⟨b, q1, q2, q3⟩ := o.own j w z'
      have bp : b ≠ p := fun y => by rw [y] at q2; exact q2.al hp
      refine ⟨b, by rw [List.getElem?_set_ne q]; exact q1, (q2.apart hp).keep (fun b u nb z => kA b u (fun y => nb (.inl y)) z) fun u r => by rw [upd_ne bp]; exact r, fun z => z.elim q3 bp⟩
    · have f : ∀ {m : Nat} {g : Ow}, (sl.set i (Slo.val .kln))[m]? = some (Slo.own g) → i ≠ m := fun {m g} z q => by
        subst q
        rw [List.getElem?_set_self hi] at z
        cases z
      have e1 := f q1
      have e2 := f q2
      have q1' : sl[j]? = some (Slo.own w) := by rw [← List.getElem?_set_ne e1]; exact q1
      have q2' : sl[l]? = some (Slo.own w') := by rw [← List.getElem?_set_ne e2]; exact q2
      rw [List.getElem?_set_ne e1] at q3
      rw [List.getElem?_set_ne e2] at q4
      exact o.sep j l w w' b q1' q2' q3 q4
  have kpb : ∀ {H' : Hp}, Kp c' (σ.set i (some (.ref p))) ⟨sl.set i (.val .kln), 0⟩ (upd H p (.lst [.int x, .int y, .int 0])) H' → Kp c σ ⟨sl, nn⟩ H H' := fun {H'} kp b u nb z =>
    kp b u (fun w => w.elim (fun w => ne_of_none z hp (Option.some.inj w).symm) fun w => nb (.inr (oc w))) (by rw [upd_ne (ne_of_none z hp)]; exact z)
  have okb : ∀ {σ' : L2.St} {A' : Addr → Prop} {H' : Hp} {e' : En}, noK (e'.sl.set i .emp) = true → Ok c' A' H' σ' e' → Ok c A' H' σ' ⟨e'.sl.set i .emp, nn⟩ := fun {σ' A' H' e'} hno o' => by
    refine ⟨by rw [List.length_set]; exact o'.len, ⟨fun b z => o'.good.al b (.inl z), fun b z => by rw [hn] at z; cases z⟩, fun b z => ?_, o'.al, fun j d z => ?_, fun j w z => ?_, fun j l w w' b q1 q2 q3 q4 => ?_⟩
    · rcases z with z | z
      · exact o'.sub b (.inl (.inl z))
      · exact o'.sub b (.inr (own_emp2 z))
    · have q : i ≠ j := fun q => by
        subst q
        have z' : (e'.sl.set i Slo.emp)[i]? = some (Slo.val d) := z
        rw [List.getElem?_set] at z'
        rw [if_pos rfl] at z'
        split at z' <;> cases z'
      have z0 : (e'.sl.set i Slo.emp)[j]? = some (Slo.val d) := z
      have z' : e'.sl[j]? = some (Slo.val d) := by rw [← List.getElem?_set_ne q]; exact z
      obtain ⟨nm, v, q1, q2⟩ := o'.val j d z'
      refine ⟨nm, v, q1, ?_⟩
      cases d with
      | py r => exact q2
      | mine r => cases nm
      | dct ds => exact q2
      | dcl ds => exact q2
      | brw ds =>
        obtain ⟨b, ys, w1, w2, w3, w4, w5⟩ := q2
        have w3' : c.S0 b := w3.resolve_right fun y => w2 (by rw [y])
        exact ⟨b, ys, w1, (fun y => by rw [hn] at y; cases y), w3', w4, w5⟩
      | ins C fs => exact q2
      | atom w => exact q2
      | kln => exact (noK_at hno z0).elim
      | lsx => exact q2
      | obj φ => exact q2
    · have q : i ≠ j := fun q => by
        subst q
        have z' : (e'.sl.set i Slo.emp)[i]? = some (Slo.own w) := z
        rw [List.getElem?_set] at z'
        rw [if_pos rfl] at z'
        split at z' <;> cases z'
      have z' : e'.sl[j]? = some (Slo.own w) := by rw [← List.getElem?_set_ne q]; exact z
      obtain ⟨b, q1, q2, q3⟩ := o'.own j w z'
      exact ⟨b, q1, q2, fun z => q3 (.inl z)⟩
    · have f : ∀ {m : Nat} {g : Ow}, (e'.sl.set i Slo.emp)[m]? = some (Slo.own g) → e'.sl[m]? = some (Slo.own g) := fun {m g} z => by
        by_cases q : i = m
        · subst q
          rw [List.getElem?_set, if_pos rfl] at z
          split at z <;> cases z
        · rw [← List.getElem?_set_ne q]; exact z
      exact o'.sep j l w w' b (f q1) (f q2) q3 q4
  have back : ∀ {kk : En → Prop} {F : L2.St → Hp → Prop}, Gx c σ H ⟨sl, nn⟩ kk F → Gx c' (σ.set i (some (.ref p))) (upd H p (.lst [.int x, .int y, .int 0])) ⟨sl.set i (.val .kln), 0⟩ (fun e' => noK (e'.sl.set i .emp) = true ∧ i < e'.sl.length ∧ kk ⟨e'.sl.set i .emp, nn⟩) F := fun {kk F} G σ' A' H' e' q kp w o' =>
    G σ' A' H' ⟨e'.sl.set i .emp, nn⟩ q.2.2 (kpb kp) (fun b z => (w b (own_emp2 z)).elim (fun y => .inl (oc y)) fun y => .inr (by
      by_cases e : b = p
      · rw [e]; exact hp
      · rw [upd_ne e] at y; exact y)) (okb q.1 o')
  exact (h c' rfl).run _ _ _ o2 Dn (back nx) (fun v H' d m q kp g' x' => by
    obtain ⟨⟨r, rfl⟩, q⟩ := q
    exact rt v H' (.py r) nn q (kpb kp) ⟨fun b z => g'.al b (.inl z), fun b z => by rw [hn] at z; cases z⟩ (Da.less (fun b z => .inl z) x')) (back bk) (back ct)⟩
end
end Wx

/-! ### part Vh -/
set_option Elab.async false
set_option linter.all false
set_option maxRecDepth 100000
set_option maxHeartbeats 1000000
set_option autoImplicit false
/-! Lists of instances: made by a comprehension, unpacked at once. -/
namespace Wx
open PySem L2
structure Dw (c : Cy) (A : Addr → Prop) (H : Hp) (xs : List V) (ds : List D) : Prop where
  x : DXs c A H xs ds
  w : ds.all wlk = true
section
variable {c : Cy} {A B : Addr → Prop} {H H' : Hp} {xs : List V} {ds : List D}
theorem DXs.map_ {A' : Addr → Prop} (f : ∀ (v : V) (d : D), wlk d = true → DX c A H v d → DX c A' H' v d) : ∀ {xs : List V} {ds : List D}, ds.all wlk = true → DXs c A H xs ds → DXs c A' H' xs ds
  | [], [], _, _ => True.intro
  | v :: vs, d :: ds, w, ⟨h, t⟩ => by
    rw [List.all_cons, Bool.and_eq_true] at w
    exact ⟨f v d w.1 h, DXs.map_ f w.2 t⟩
  | [], _ :: _, _, h => h.elim
  | _ :: _, [], _, h => h.elim
theorem Dw.keep (k : Kept A H H') (h : Dw c A H xs ds) : Dw c A H' xs ds := ⟨h.x.map_ (fun v d w x => DX.to k (fun a z => .inl z) w x) h.w, h.w⟩
theorem Dw.less (w : ∀ a, B a → A a) (h : Dw c A H xs ds) : Dw c B H xs ds := ⟨h.x.map_ (fun v d q x => DX.to Kept.refl (fun a z => .inl (w a z)) q x) h.w, h.w⟩
theorem Dw.len (h : Dw c A H xs ds) : xs.length = ds.length := h.x.len
theorem Dw.snoc {v : V} {d : D} (h : Dw c A H xs ds) (x : DX c A H v d) (w : wlk d = true) : Dw c A H (xs ++ [v]) (ds ++ [d]) := ⟨h.x.app ⟨x, True.intro⟩, by rw [List.all_append, h.w]; show (wlk d && true) = true; rw [w]; rfl⟩
end
structure Wl (c : Cy) (te : TE) (e : En) (Φ : List D → Nat → Prop) : Prop where
  run : ∀ (σ : L2.St) (A : Addr → Prop) (H : Hp), Ok c A H σ e → ∀ Q : VK, (∀ p H2 vs ds n, Φ ds n → Ek c H H2 → Good c n H2 → H p = none → H2 p = some (.lst vs) → Dw c A H2 vs ds → Q (.ref p) H2) → te σ H Q
section
variable {c : Cy} {e : En} {A : Addr → Prop} {H : Hp} {σ : L2.St}
end

section
variable {c : Cy} {sl : List Slo} {nn : Nat} {te : TE} {K : PySem.W.Frag} {P : Po}
end
section
variable {X : Cx} {K : PySem.W.Frag} {k : Nat} {C : Addr} {sp : Sp}
structure StdC (P : Program) (w : World) (K : PySem.W.Frag) (mg : Str → Option Value) (base : Heap) (k : Nat) (C : Addr) (sp : Sp) : Prop where
  ex : ∃ g fd ps, StX.CallO K C g ∧ FnOk P w K mg base CX0 k g fd ps sp ∧ Binds K fd ps []
end
theorem ixd_out {ds : List PyData} {i : Int} {k : PyData → Prop} (h : ∃ d, atI ds i = some d ∧ k d) : Ixd (outO (.lst ds)) (.py (.int i)) k := h
end Wx

/-! ### part Wd -/
set_option Elab.async false
set_option linter.all false
set_option maxRecDepth 100000
set_option maxHeartbeats 1000000
set_option autoImplicit false
/-! Own dicts with int or text keys; index of a list of ints. -/
namespace Wx
open PySem L2
/-! ## tables of data -/
def valP (ds : List (Key × PyData)) (k : Key) : Option PyData := (ds.find? fun kv => decide (kv.1 = k)).map (·.2)
def putP (ds : List (Key × PyData)) (k : Key) (p : PyData) : List (Key × PyData) :=
  if (ds.any fun kv => decide (kv.1 = k)) = true then ds.map (fun kv => if kv.1 = k then (kv.1, p) else kv) else ds ++ [(k, p)]
theorem valP_pos {p : Key × PyData} {r : List (Key × PyData)} {k : Key} (e : p.1 = k) : valP (p :: r) k = some p.2 := by simp [valP, List.find?_cons, e]
theorem valP_neg {p : Key × PyData} {r : List (Key × PyData)} {k : Key} (e : ¬ p.1 = k) : valP (p :: r) k = valP r k := by simp [valP, List.find?_cons, e]
theorem valP_any (k : Key) : ∀ ds : List (Key × PyData), (ds.any fun kv => decide (kv.1 = k)) = (valP ds k).isSome
  | [] => rfl
  | p :: r => by
    rw [List.any_cons]
    by_cases e : p.1 = k
    · simp only [valP_pos e, decide_eq_true e, Bool.true_or, Option.isSome_some]
    · rw [valP_neg e, decide_eq_false e, Bool.false_or]; exact valP_any k r
section
variable {K : PySem.W.Frag} {S : Addr → Prop} {H : Hp}
theorem KvR.len : ∀ {kvs : List (Key × V)} {ds : List (Key × PyData)}, KvR K S H kvs ds → kvs.length = ds.length
  | [], [], _ => rfl
  | (x, v) :: r, (y, d) :: s, ⟨e, h, t⟩ => by rw [List.length_cons, List.length_cons, KvR.len t]
  | [], _ :: _, h => h.elim
  | _ :: _, [], h => h.elim
theorem KvR.get (k : Key) : ∀ {kvs : List (Key × V)} {ds : List (Key × PyData)}, KvR K S H kvs ds → (valP ds k = none ∧ valV kvs k = none) ∨ ∃ p v, valP ds k = some p ∧ valV kvs k = some v ∧ Da K S H v p
  | [], [], _ => .inl ⟨rfl, rfl⟩
  | (x, v) :: r, (y, d) :: s, ⟨e, h, t⟩ => by
    subst e
    by_cases q : x = k
    · exact .inr ⟨d, v, valP_pos q, valV_pos q, h⟩
    · rw [valP_neg (p := (x, d)) q, valV_neg (p := (x, v)) q]
      exact KvR.get k t
  | [], _ :: _, h => h.elim
  | _ :: _, [], h => h.elim
theorem KvR.map_ {k : Key} {v : V} {p : PyData} (h : Da K S H v p) : ∀ {kvs : List (Key × V)} {ds : List (Key × PyData)}, KvR K S H kvs ds → KvR K S H (kvs.map fun kv => if kv.1 = k then (kv.1, v) else kv) (ds.map fun kv => if kv.1 = k then (kv.1, p) else kv)
  | [], [], _ => True.intro
  | (x, w) :: r, (y, d) :: s, ⟨e, hw, t⟩ => by
    subst e
    rw [List.map_cons, List.map_cons]
    by_cases q : x = k
    · rw [if_pos q, if_pos q]
      exact ⟨rfl, h, KvR.map_ h t⟩
    · rw [if_neg q, if_neg q]
      exact ⟨rfl, hw, KvR.map_ h t⟩
  | [], _ :: _, h => h.elim
  | _ :: _, [], h => h.elim
theorem KvR.snoc {k : Key} {v : V} {p : PyData} (h : Da K S H v p) : ∀ {kvs : List (Key × V)} {ds : List (Key × PyData)}, KvR K S H kvs ds → KvR K S H (kvs ++ [(k, v)]) (ds ++ [(k, p)])
  | [], [], _ => ⟨rfl, h, True.intro⟩
  | (x, w) :: r, (y, d) :: s, ⟨e, hw, t⟩ => ⟨e, hw, KvR.snoc h t⟩
  | [], _ :: _, h => h.elim
  | _ :: _, [], h => h.elim
theorem KvR.put {k : Key} {v : V} {p : PyData} {kvs : List (Key × V)} {ds : List (Key × PyData)} (h : Da K S H v p) (t : KvR K S H kvs ds) : KvR K S H (putK kvs k v) (putP ds k p) := by
  unfold putK putP
  rw [valV_any, valP_any]
  rcases t.get k with ⟨a, b⟩ | ⟨q, u, a, b, _⟩
  · rw [a, b, if_neg (by simp), if_neg (by simp)]
    exact t.snoc h
  · rw [a, b, if_pos (by simp), if_pos (by simp)]
    exact t.map_ h
end
/-! ## the rules -/
section
variable {c : Cy} {sl : List Slo} {nn n : Nat} {te ty tv : TE} {Φ : D → Nat → Prop} {Ψ : Ow → Nat → Prop} {P : Po} {K : PySem.W.Frag}
theorem wn_dnew (h : Ψ (.dct []) nn) : Wn c tDNewK ⟨sl, nn⟩ Ψ := ⟨fun σ A H o Q k => fun p hp => k p _ (.dct []) nn h (Ek.new hp) (o.good.new hp) hp ⟨[], upd_same, True.intro⟩⟩
/-- a key: an int or a text -/
def KeyD (d : D) (k : Key → Prop) : Prop := match d with
  | .py (.int i) => k (.inl i)
  | .py (.str x) => k (.inr x)
  | _ => False
theorem key_int {i : Int} {k : Key → Prop} (h : k (.inl i)) : KeyD (.py (.int i)) k := h
theorem key_of {d : D} {k : Key → Prop} {A : Addr → Prop} {H : Hp} {v : V} (h : KeyD d k) (x : DX c A H v d) : ∃ y, v = kV y ∧ k y := by
  match d, h with
  | .py (.int i), h => exact ⟨.inl i, Da.int_eq x, h⟩
  | .py (.str s), h => exact ⟨.inr s, Da.str_eq x, h⟩
theorem wp_din {i : Nat} {ds : List (Key × PyData)} (hi : sl[i]? = some (.own (.dct ds))) (h : Wp c ty ⟨sl, nn⟩ fun d n => KeyD d fun k => Φ (.py (.bool (valP ds k).isSome)) n) : Wp c (tDIn ty (tVar i)) ⟨sl, nn⟩ Φ := ⟨fun σ A H o Q k => by
  refine h.run σ A H o _ fun v H1 d n p e1 g1 x => ?_
  obtain ⟨y, rfl, q⟩ := key_of p x
  have o1 := o.keep e1 g1
  obtain ⟨a, h1, ⟨kvs, h2, h3⟩, h4⟩ := o1.own i _ hi
  refine ⟨.ref a, h1, a, valV kvs y, rfl, DGet.k h2, ?_⟩
  rcases h3.get y with ⟨z1, z2⟩ | ⟨u, w, z1, z2, _⟩
  · rw [z2]; rw [z1] at q; exact k _ H1 _ n q e1 g1 (.bl _)
  · rw [z2]; rw [z1] at q; exact k _ H1 _ n q e1 g1 (.bl _)⟩
theorem wp_dnotin {i : Nat} {ds : List (Key × PyData)} (hi : sl[i]? = some (.own (.dct ds))) (h : Wp c ty ⟨sl, nn⟩ fun d n => KeyD d fun k => Φ (.py (.bool (!(valP ds k).isSome))) n) : Wp c (tDNotIn ty (tVar i)) ⟨sl, nn⟩ Φ := ⟨fun σ A H o Q k => by
  refine h.run σ A H o _ fun v H1 d n p e1 g1 x => ?_
  obtain ⟨y, rfl, q⟩ := key_of p x
  have o1 := o.keep e1 g1
  obtain ⟨a, h1, ⟨kvs, h2, h3⟩, h4⟩ := o1.own i _ hi
  refine ⟨.ref a, h1, a, valV kvs y, rfl, DGet.k h2, ?_⟩
  rcases h3.get y with ⟨z1, z2⟩ | ⟨u, w, z1, z2, _⟩
  · rw [z2]; rw [z1] at q; exact k _ H1 _ n q e1 g1 (.bl _)
  · rw [z2]; rw [z1] at q; exact k _ H1 _ n q e1 g1 (.bl _)⟩
theorem wp_dget {i : Nat} {ds : List (Key × PyData)} (hi : sl[i]? = some (.own (.dct ds))) (h : Wp c ty ⟨sl, nn⟩ fun d n => KeyD d fun k => ∃ p, valP ds k = some p ∧ Φ (.py p) n) : Wp c (tDGet (tVar i) ty) ⟨sl, nn⟩ Φ := ⟨fun σ A H o Q k => by
  obtain ⟨a, h1, ⟨kvs, h2, h3⟩, h4⟩ := o.own i _ hi
  refine ⟨.ref a, h1, h.run σ A H o _ fun v H1 d n p e1 g1 x => ?_⟩
  obtain ⟨y, rfl, u, z, q⟩ := key_of p x
  have o1 := o.keep e1 g1
  obtain ⟨a', h1', ⟨kvs', h2', h3'⟩, h4'⟩ := o1.own i _ hi
  rw [h1] at h1'; cases h1'
  rcases h3'.get y with ⟨z1, z2⟩ | ⟨u', w, z1, z2, z3⟩
  · rw [z] at z1; cases z1
  · rw [z] at z1; cases z1
    exact ⟨a, w, rfl, by rw [← z2]; exact DGet.k h2', k w H1 _ n q e1 g1 z3⟩⟩
theorem ws_dput {i : Nat} {ds : List (Key × PyData)} (hi : sl[i]? = some (.own (.dct ds))) (h : Wp c tv ⟨sl, nn⟩ fun d n => ∃ p, d = .py p ∧ Wp c ty ⟨sl, n⟩ fun d2 m => KeyD d2 fun k => ds.length < sizeLine ∧ P.nx ⟨sl.set i (.own (.dct (putP ds k p))), m⟩) : Ws c (sDPut (tVar i) ty tv) ⟨sl, nn⟩ P := ⟨fun σ A H o Dn nx _ _ _ => by
  refine h.run σ A H o _ fun v H1 d n p e1 g1 x => ?_
  obtain ⟨p, rfl, q⟩ := p
  have o1 := o.keep e1 g1
  obtain ⟨a, h1, _, h4⟩ := o1.own i _ hi
  refine ⟨.ref a, h1, q.run σ A H1 o1 _ fun y H2 d2 m q e2 g2 x2 => ?_⟩
  obtain ⟨y, rfl, hz, q⟩ := key_of q x2
  have o2 := o1.keep e2 g2
  obtain ⟨a', h1', ⟨kvs, h2, h3⟩, _⟩ := o2.own i _ hi
  rw [h1] at h1'; cases h1'
  have xp : Da c.K A H2 v p := Da.keep (Ek.kept e2 o.k) x
  have aA : A a := o.sub a (.inr ⟨i, _, hi, h1⟩)
  have k2 : Kept A H2 (upd H2 a (.dK (putK kvs y v))) := fun b u nb q => by rw [upd_ne fun z => nb (by rw [z]; exact aA)]; exact q
  obtain ⟨o3, kp, bk⟩ := o2.put (w' := .dct (putP ds y p)) (u := .dK (putK kvs y v)) hi h1 h4 g2 ⟨_, upd_same, (KvR.put xp h3).keep k2⟩
  exact ⟨a, _, rfl, DPut.k h2 (by rw [h3.len]; exact hz), nx σ A _ ⟨sl.set i (.own (.dct (putP ds y p))), m⟩ q (fun b u nb w => kp b u nb ((e1.trans e2) b u (fun z => nb (.inl z)) w)) (fun b z => .inl (bk b z)) o3⟩⟩
/-! ## index -/
def idxI (ns : List Int) (x : Int) : Nat := ns.findIdx (fun y => decide (y = x))
theorem da_ints {S : Addr → Prop} {H : Hp} : ∀ {xs : List V} {ns : List Int}, DaL K S H xs (ns.map PyData.int) → xs = ns.map V.int
  | [], [], _ => rfl
  | _ :: _, [], h => by cases h
  | [], _ :: _, h => by cases h
  | x :: xs, n :: ns, h => by
    cases h with
    | cons a b =>
      cases Da.int_eq a
      rw [da_ints b]
      rfl
theorem flat_ints : ∀ ns : List Int, (ns.map V.int).all flatV = true
  | [] => rfl
  | n :: ns => by rw [List.map_cons, List.all_cons, flat_ints ns]; rfl
def nums (xs : List Int) : List PyData := xs.map PyData.int
theorem nums_len (xs : List Int) : (nums xs).length = xs.length := List.length_map _
theorem nums_app (xs ys : List Int) : nums xs ++ nums ys = nums (xs ++ ys) := by unfold nums; rw [List.map_append]
theorem mem_nums (x : Int) (l : List Int) : Mem (.int x) (nums l) = decide (x ∈ l) := by
  unfold Mem nums
  rw [List.any_map]
  induction l with
  | nil => simp
  | cons t l ih =>
    rw [List.any_cons, ih]
    simp only [Function.comp, eqv_int, List.mem_cons]
    by_cases h : t = x
    · subst h; simp
    · have h2 : ¬ x = t := fun z => h z.symm
      simp [h, h2]
theorem shp_numsL (l : List Int) : SeqAt.shaped (.list (nums l)) = true := by
  have h : ∀ l : List Int, PyData.canLayAll0 (nums l) = true ∧ PyData.depthAll (nums l) ≤ 0 := by
    intro l
    induction l with
    | nil => exact ⟨rfl, by simp [nums, PyData.depthAll]⟩
    | cons x l ih =>
      obtain ⟨h1, h2⟩ := ih
      unfold nums at h1 h2 ⊢
      refine ⟨by rw [List.map_cons, PyData.canLayAll0, h1]; rfl, ?_⟩
      rw [List.map_cons, PyData.depthAll]
      have : (PyData.int x).depth = 0 := by simp [PyData.depth]
      omega
  obtain ⟨h1, h2⟩ := h l
  unfold SeqAt.shaped
  rw [Bool.and_eq_true]
  exact ⟨by rw [PyData.canLay0]; exact h1, decide_eq_true (by rw [PyData.depth]; omega)⟩
theorem idxI_spec {ns : List Int} {x : Int} (h : x ∈ ns) : ∃ hj : idxI ns x < ns.length, ns[idxI ns x] = x ∧ ∀ m (hm : m < idxI ns x), ns[m]'(by omega) ≠ x := by
  have hj : idxI ns x < ns.length := List.findIdx_lt_length_of_exists ⟨x, h, by simp⟩
  refine ⟨hj, ?_, fun m hm => ?_⟩
  · have := List.findIdx_getElem (xs := ns) (p := fun y => decide (y = x)) (w := hj)
    exact of_decide_eq_true this
  · have := List.not_of_lt_findIdx hm
    simpa using this
/-- path.index(x), x among the ints of an own list -/
theorem wp_index {i : Nat} {ns : List Int} (hK : K = c.K) (hi : sl[i]? = some (.own (.lst (nums ns)))) (h : Wp c te ⟨sl, nn⟩ fun d n => ∃ x : Int, d = .py (.int x) ∧ x ∈ ns ∧ Φ (.py (.int (idxI ns x : Nat))) n) :
    Wp c (tBM K "list" (rIndex K) (tVar i) (tCons te tNil)) ⟨sl, nn⟩ Φ := ⟨fun σ A H o Q k => by
  subst hK
  obtain ⟨a, h1, ⟨xs, h2, h3⟩, h4⟩ := o.own i _ hi
  refine ⟨.ref a, h1, .inl ⟨rfl, xs, SqL.of h2⟩, h.run σ A H o _ fun v H1 d n p e1 g1 x => ?_⟩
  obtain ⟨y, rfl, hy, q⟩ := p
  cases Da.int_eq x
  have nk : c.k ≠ some a := fun z => h4 (c.hk a z)
  have ha : H1 a = some (.lst xs) := e1 a _ nk h2
  have ex : xs = ns.map V.int := da_ints h3
  obtain ⟨j1, j2, j3⟩ := idxI_spec hy
  refine ⟨a, xs, .int y, idxI ns y, .int y, rfl, rfl, SqL.of ha, rfl, by rw [ex]; exact flat_ints ns, ?_, by simp [eqV], fun m z' hm hz => ?_, k _ H1 _ n q e1 g1 (.int _)⟩
  · rw [ex, List.getElem?_map, List.getElem?_eq_getElem j1, j2]
    rfl
  · rw [ex, List.getElem?_map] at hz
    have hm' : m < ns.length := by omega
    rw [List.getElem?_eq_getElem hm'] at hz
    cases hz
    have := j3 m hm
    simp [eqV, this]⟩
/-- an own list and a new one, put together -/
theorem wp_catO {i : Nat} {tb : TE} {ds : List PyData} (hi : sl[i]? = some (.own (.lst ds))) (h : Wn c tb ⟨sl, nn⟩ fun u m => ∃ es, u = .lst es ∧ ds.length + es.length ≤ sizeLine ∧ Φ (outO (.lst (ds ++ es))) m) : Wp c (tOp (rADD K) (tVar i) tb) ⟨sl, nn⟩ Φ := ⟨fun σ A H o Q k => by
  obtain ⟨a, h1, _, _⟩ := o.own i _ hi
  refine ⟨.ref a, h1, h.run σ A H o _ fun p2 H2 u m q e2 g2 f2 t2 => ?_⟩
  obtain ⟨es, rfl, hz, q⟩ := q
  obtain ⟨zs, r2, y2⟩ := t2
  have o2 := o.keep e2 g2
  obtain ⟨a', h1', ⟨xs, h2, h3⟩, h4⟩ := o2.own i _ hi
  rw [h1] at h1'; cases h1'
  have d2 : DaL c.K A H2 zs es := y2.less fun a z => .inl z
  refine .inr (.inr (.inl ⟨a, p2, xs, zs, rfl, rfl, h2, r2, by rw [h3.len, d2.len]; exact hz, fun p hp => ?_⟩))
  exact k (.ref p) _ (outO (.lst (ds ++ es))) m q (e2.trans (Ek.new hp)) (g2.new hp) (dx_ow (w := .lst (ds ++ es)) (o2.at_.fresh hp) ⟨xs ++ zs, upd_same, lay (h3.append d2) hp⟩)⟩
end
end Wx

/-! ### part Wf -/
set_option Elab.async false
set_option linter.all false
set_option maxRecDepth 100000
set_option maxHeartbeats 1000000
set_option autoImplicit false
/-! More rules: a value and an own object at once, +=, a list repeated, // by any small number. -/
namespace Wx
open PySem L2
def tParP (i j : Nat) (ta : TA) : TS := tPar i j ta
theorem ps_parP {X : Cx} {st : Stmt} {i j : Nat} {ta : TA} (h : PS X st (tPar i j ta)) : PS X st (tParP i j ta) := h
section
variable {c : Cy} {sl : List Slo} {nn n : Nat} {te te2 ta tb : TE} {Φ : D → Nat → Prop} {Ψ : Ow → Nat → Prop} {P : Po} {K : PySem.W.Frag}
/-- i, j = a value, a new own object -/
theorem ws_parP {i j : Nat} (h : Wp c te ⟨sl, nn⟩ fun d m => d.nm = true ∧ Wn c te2 ⟨sl, m⟩ fun w n => P.nx ⟨(sl.set i (.val d)).set j (.own w), n⟩) (hi : i < sl.length) (hj : j < sl.length) (hij : i ≠ j) :
    Ws c (tParP i j (tCons te (tCons te2 tNil))) ⟨sl, nn⟩ P := ⟨fun σ A H o Dn nx _ _ _ => by
  refine h.run σ A H o _ fun v H1 d m p e1 g1 x => ?_
  obtain ⟨nm, p⟩ := p
  have o1 := o.keep e1 g1
  refine p.run σ A H1 o1 _ fun r H2 w n q e2 g2 hr t => ?_
  have x2 := x.keep e2 o.k
  have o2 := o1.set_ (i := i) hi nm x
  have o3 := o2.set_own (i := j) e2 g2 hr t (by show j < (sl.set i _).length; rw [List.length_set]; exact hj)
  refine ⟨v, .ref r, rfl, nx _ _ H2 ⟨(sl.set i (.val d)).set j (.own w), n⟩ q (Kp.ek (e1.trans e2)) (fun a z => ?_) o3⟩
  obtain ⟨k, es, h3, h4⟩ := z
  by_cases rj : j = k
  · subst rj
    rw [List.getElem?_set_self (by rw [List.length_set, o.len]; exact hj)] at h4
    cases h4
    exact .inr (fresh_of e1 g1 hr)
  · rw [List.getElem?_set_ne rj] at h4
    have h3' : (sl.set i (.val d))[k]? = some (Slo.own es) := by rw [← List.getElem?_set_ne rj]; exact h3
    exact .inl (own_set (e := ⟨sl, nn⟩) ⟨k, es, h3', h4⟩)⟩
/-- x op= e, whole numbers -/
theorem ws_augI {i : Nat} {a : Int} {g : Int → Int → Int} (hi : sl[i]? = some (.val (.py (.int a)))) (h : Wp c te ⟨sl, nn⟩ fun d m => ∃ b, d = .py (.int b) ∧ P.nx ⟨sl.set i (.val (.py (.int (g a b)))), m⟩) : Ws c (tAug i te (ipI g)) ⟨sl, nn⟩ P := ⟨fun σ A H o Dn nx _ _ _ => by
  obtain ⟨_, v, h1, h2⟩ := o.val i _ hi
  cases Da.int_eq h2
  refine ⟨.int a, h1, h.run σ A H o _ fun v H1 d m p e1 g1 x => ?_⟩
  obtain ⟨b, rfl, q⟩ := p
  cases Da.int_eq x
  have o1 := o.keep e1 g1
  have il : i < sl.length := (List.getElem?_eq_some_iff.mp hi).1
  have o2 := o1.set_ (i := i) (d := .py (.int (g a b))) (v := .int (g a b)) il rfl (.int _)
  exact ⟨a, b, rfl, rfl, nx _ A H1 _ q (Kp.ek e1) (fun z w => .inl (own_set (e := ⟨sl, nn⟩) w)) o2⟩⟩
theorem DaL.rep {S : Addr → Prop} {H : Hp} {xs : List V} {ds : List PyData} (h : DaL K S H xs ds) : ∀ k : Nat, DaL K S H (List.replicate k xs).flatten (List.replicate k ds).flatten
  | 0 => .nil
  | k + 1 => by
    rw [List.replicate_succ, List.replicate_succ, List.flatten_cons, List.flatten_cons]
    exact h.append (DaL.rep h k)
/-- [..] * k -/
theorem wn_rep (h : Wn c ta ⟨sl, nn⟩ fun w n => ∃ ds, w = .lst ds ∧ Wp c tb ⟨sl, n⟩ fun d m => ∃ k : Int, d = .py (.int k) ∧ 0 ≤ k ∧ k < 2 ^ 63 ∧ ds.length * k.toNat ≤ sizeLine ∧ Ψ (.lst (List.replicate k.toNat ds).flatten) m) : Wn c (tOp rMUL ta tb) ⟨sl, nn⟩ Ψ := ⟨fun σ A H o Q k => by
  refine h.run σ A H o _ fun p1 H1 w n q e1 g1 f1 t1 => ?_
  obtain ⟨ds, rfl, q⟩ := q
  obtain ⟨xs, r1, y1⟩ := t1
  have o1 := o.keep e1 g1
  refine q.run σ A H1 o1 _ fun v H2 d m q e2 g2 x => ?_
  obtain ⟨i, rfl, h0, hb, hz, q⟩ := q
  cases Da.int_eq x
  have nk : c.k ≠ some p1 := fun z => o.al p1 (o.k p1 z) f1
  have r1' : H2 p1 = some (.lst xs) := e2 p1 _ nk r1
  have d1 : DaL c.K A H2 xs ds := (y1.less fun a z => .inl z).keep (e2.kept o.k)
  refine .inr ⟨p1, i, xs, rfl, rfl, r1', by omega, hb, by rw [d1.len]; exact hz, fun p hp => ?_⟩
  exact k p _ _ m q ((e1.trans e2).trans (Ek.new hp)) (g2.new hp) (fresh_of (e1.trans e2) g2 hp) ⟨_, upd_same, lay (d1.rep i.toNat) hp⟩⟩
theorem wp_rep {t : TA} (h : Wn c (tOp rMUL (tLst t) tb) ⟨sl, nn⟩ fun w n => Φ (outO w) n) : Wp c (tOp rMUL (tLst t) tb) ⟨sl, nn⟩ Φ := wp_new h
theorem rw_fdN {i j : Int} (hc : CDivN i j) (h : Φ (.py (.int (i.fdiv j))) n) : Rw c (rI CDivN fun i j => .int (i.fdiv j)) (.py (.int i)) (.py (.int j)) n Φ := rw_i (h := ⟨hc, h⟩)
end
end Wx

/-! ### part Wm -/
set_option Elab.async false
set_option linter.all false
set_option maxRecDepth 100000
set_option maxHeartbeats 1000000
set_option autoImplicit false
/-! max of a pair of whole numbers. -/
namespace Wx
open PySem L2
section
variable {c : Cy} {n : Nat} {Φ : D → Nat → Prop} {K : PySem.W.Frag}
end
end Wx

/-! ### part Wh -/
set_option Elab.async false
set_option linter.all false
set_option maxRecDepth 100000
set_option maxHeartbeats 2000000
/-! An own error with one field. -/
namespace PySem
namespace XTooHigh
open PySem.W PySem.Calls PyProof.Rows PySem.HandSPX
/-! ### the text of __init__ -/
def iA_TooHigh (p1 p2 : Pos) : Arguments := { posonlyargs := [], args := [{ arg := "self", annotation := none, pos := p1 }, { arg := "limit", annotation := none, pos := p2 }], vararg := none, kwonlyargs := [], kw_defaults := [], kwarg := none, defaults := [] }
def iB_TooHigh (q1 q2 q3 q4 : Pos) : List Stmt := [.Assign [.Attribute (.Name "self" q1) "limit" q2] (.Name "limit" q3) q4]
def iS_TooHigh : Scope := { kind := .function, names := [(PySem.Str.ofString "self", .local), (PySem.Str.ofString "limit", .local)], isGenerator := false, isCoroutine := false, more := [] }
/-- what the written part says of Low, at C, and of its __init__, at fI -/
structure TxtTooHigh (K : Frag) (mg : Str → Option Value) (C fI : Addr) : Prop where
  gC : mg "TooHigh" = some (.ref C)
  cls : ∃ nm q N bs bm sn sub ab col dd k0 k1 k2 k3 k5, K.lookup C = some (excClassObj nm q C N bs bm true sn sub ab col dd k0 k1 k2 k3 k5 "ValueError.__new__") ∧ refsVE bm = true
  sa : findIn K (.ref C) "__setattr__" = some (some (.builtin "object.__setattr__"))
  ga : findIn K (.ref C) "__getattribute__" = some (some (.builtin "BaseException.__getattribute__"))
  gg : findIn K (.ref C) "__getattr__" = some none
  noN : findIn K (.ref C) "limit" = some none
  iC : findIn K (.ref C) "__init__" = some (some (.ref fI))
  tC : typeIn K (.ref fI) = some (.type "function")
  kC : keepIn K (.ref C) = true
  exC : subIn K (.ref C) (.type "BaseException") = some true
  tyC : typeIn K (.ref C) = some (.type "type")
  hdC : hasDictIn K C = true
  te : exmOne K (.ref C) (.ref C) = some true
  fn : ∃ (oc : Value) (od : Option Addr) (doc pm : Value) (an : Option Addr) (cdv ct : Value) (osl : Array (Option Value)) (p1 p2 q1 q2 q3 q4 : Pos),
    K.lookup fI = some ⟨oc, od, .func (fnOf "__init__" "TooHigh.__init__" (iA_TooHigh p1 p2) (iB_TooHigh q1 q2 q3 q4) iS_TooHigh .none .none doc pm an cdv ct), osl⟩ ∧ codeIn K cdv "TooHigh.__init__" = true
/-- what __init__ leaves of a fresh exception at x -/
structure InitEndTooHigh (h h' : Heap) (x C dx t1 : Addr) (v : Value) : Prop where
  keep : ∀ b o, b ≠ x → h.get? b = some o → h'.get? b = some o
  obj : h'.get? x = some { cls := .ref C, dict := some dx, data := .fields #[.ref t1, .none, .none, .none, .bool false, .none] }
  dbig : h.objs.size ≤ dx
  dne : dx ≠ x
  ns : h'.Ns1 dx (fun y => if y = "limit" then some v else none)
/-- a made Low -/
structure OwnMadeTooHigh (h h' : Heap) (e C d : Addr) (v : Value) : Prop where
  keep : ∀ b o, h.get? b = some o → h'.get? b = some o
  new : h.objs.size ≤ e
  obj : ∃ oe vs, h'.get? e = some oe ∧ oe.cls = .ref C ∧ oe.dict = some d ∧ oe.data = .fields vs ∧ vs[1]? = some .none
  dbig : h.objs.size ≤ d
  dne : d ≠ e
  ns : h'.Ns1 d (fun y => if y = "limit" then some v else none)
section
variable {prog : Program} {w : World} {A : Around} {E : Value → Shared → Prop} {R : Result → Shared → Prop} {s : Shared} {K : Frag} {mg : Str → Option Value} {C fI : Addr}
end
end XTooHigh
end PySem
namespace L2
open PySem PySem.Spec PyProof.Rows
section
variable {X : Cx} {C fI : Addr}
end
end L2


/-! ### part We -/
set_option Elab.async false
set_option linter.all false
set_option maxRecDepth 100000
set_option maxHeartbeats 1000000
set_option autoImplicit false
/-! What surely raises: beside Ws, a judgement Wr; promises of defs that raise; try. -/
namespace Wx
open PySem L2
abbrev XFs : Type := Option (List (Str × PyData))
/-- an exception of the class at cl, with its own dict or none -/
def XD (c : Cy) (A : Addr → Prop) (H : Hp) (cl : Addr) (fs : XFs) (cls : Value) (od : Option Addr) : Prop :=
  cls = .ref cl ∧ match fs with
    | none => od = none
    | some fs => ∃ d vs, od = some d ∧ ¬ A d ∧ H d = some (.xd vs) ∧ FsR c.K A H vs fs
def Xx (c : Cy) (σ : L2.St) (H : Hp) (e : En) (Φ : Addr → XFs → En → Prop) (W : WX) : Prop :=
  ∀ (σ' : L2.St) (A' : Addr → Prop) (H' : Hp) (e' : En) (cls : Value) (od : Option Addr) (cl : Addr) (fs : XFs), Φ cl fs e' → Kp c σ e H H' → (∀ a, ownA σ' e'.sl a → ownA σ e.sl a ∨ H a = none) → Ok c A' H' σ' e' → XD c A' H' cl fs cls od → W cls od σ' H'
structure Wr (c : Cy) (t : TS) (e : En) (W : WX) (Φ : Addr → XFs → En → Prop) : Prop where
  run : ∀ (σ : L2.St) (A : Addr → Prop) (H : Hp), Ok c A H σ e → Xx c σ H e Φ W → ∀ Dn : Ends, t Dn σ H
structure Wq (c : Cy) (te : TE) (e : En) (W : WX) (Φ : Addr → XFs → En → Prop) : Prop where
  run : ∀ (σ : L2.St) (A : Addr → Prop) (H : Hp), Ok c A H σ e → Xx c σ H e Φ W → ∀ Q : VK, te σ H Q
section
variable {c : Cy} {A A1 : Addr → Prop} {H H1 : Hp} {σ σ1 : L2.St} {e e1 : En} {W : WX} {Φ : Addr → XFs → En → Prop} {t u : TS} {te : TE} {tt : TT} {g : TG}
theorem XD.less {B : Addr → Prop} {cl : Addr} {fs : XFs} {cls : Value} {od : Option Addr} (w : ∀ a, B a → A a) (h : XD c A H cl fs cls od) : XD c B H cl fs cls od := by
  obtain ⟨h1, h2⟩ := h
  refine ⟨h1, ?_⟩
  cases fs with
  | none => exact h2
  | some fs =>
    obtain ⟨d, vs, h3, h4, h5, h6⟩ := h2
    exact ⟨d, vs, h3, fun z => h4 (w d z), h5, h6.less w⟩
theorem Xx.after (h : Xx c σ H e Φ W) (o : Ok c A H σ e) (a : Kp c σ e H H1) (w : ∀ a, ownA σ1 e1.sl a → ownA σ e.sl a ∨ H a = none) (o1 : Ok c A1 H1 σ1 e1) : Xx c σ1 H1 e1 Φ W := fun σ' A' H' e' cls od cl fs p b w' o' x =>
  h σ' A' H' e' cls od cl fs p (a.trans w b) (fun y z => by
    rcases w' y z with z | z
    · exact w y z
    · exact own_back o o1.good a (.inr z)) o' x
theorem Xx.ek {n : Nat} (h : Xx c σ H e Φ W) (o : Ok c A H σ e) (a : Ek c H H1) (g : Good c n H1) : Xx c σ H1 ⟨e.sl, n⟩ Φ W := h.after o (Kp.ek a) (fun _ z => .inl z) (o.keep a g)
theorem wr_seq1 (h : Wr c t e W Φ) : Wr c (tSeq t u) e W Φ := ⟨fun σ A H o x Dn => h.run σ A H o x { Dn with nx := u Dn }⟩
theorem wr_seq2 {sl : List Slo} {nn : Nat} (h : Ws c t ⟨sl, nn⟩ ⟨fun e1 => Wr c u e1 W Φ, fun _ _ => False, fun _ => False, fun _ => False⟩) : Wr c (tSeq t u) ⟨sl, nn⟩ W Φ := ⟨fun σ A H o x Dn =>
  h.run σ A H o { Dn with nx := u Dn } (fun σ1 A1 H1 e1 q a w o1 => q.run σ1 A1 H1 o1 (x.after o a w o1) Dn) (fun _ _ _ _ z => z.elim) (fun _ _ _ _ z => z.elim) (fun _ _ _ _ z => z.elim)⟩
theorem wr_if {sl : List Slo} {nn : Nat} (h : Wt c tt ⟨sl, nn⟩ fun b n => (b = true → Wr c t ⟨sl, n⟩ W Φ) ∧ (b = false → Wr c u ⟨sl, n⟩ W Φ)) : Wr c (tIfS tt t u) ⟨sl, nn⟩ W Φ := ⟨fun σ A H o x Dn => by
  refine h.run σ A H o _ fun b H1 n p e1 g1 => ?_
  cases b with
  | true => exact iteT ((p.1 rfl).run σ A H1 (o.keep e1 g1) (x.ek o e1 g1) Dn)
  | false => exact iteF ((p.2 rfl).run σ A H1 (o.keep e1 g1) (x.ek o e1 g1) Dn)⟩
theorem wr_drop (h : Wq c te e W Φ) : Wr c (tDrop te) e W Φ := ⟨fun σ A H o x Dn => h.run σ A H o x _⟩
end
/-! ## promises -/
def SpR {ι : Type} (K : PySem.W.Frag) (ar : ι → List D) (pre : ι → Nat → Prop) (post : ι → Nat → Addr → XFs → Nat → Prop) : Sp := fun vs H _ E =>
  ∃ (c : Cy) (n : Nat) (z : ι), c.K = K ∧ Good c n H ∧ DXs c c.S0 H vs (ar z) ∧ pre z n ∧ ∀ (cls : Value) (od : Option Addr) (H' : Hp) (cl : Addr) (fs : XFs) (m : Nat), post z n cl fs m → Ek c H H' → Good c m H' → XD c c.S0 H' cl fs cls od → E cls od H'
theorem sr_len {ι : Type} {K : PySem.W.Frag} {ar : ι → List D} {pre : ι → Nat → Prop} {post : ι → Nat → Addr → XFs → Nat → Prop} {m : Nat} (hl : ∀ x, (ar x).length = m) (vs : List V) (H : Hp) (Q : VK) (E : XK) (h : SpR K ar pre post vs H Q E) : vs.length = m := by
  obtain ⟨c, n, z, hK, g, x, hp, k⟩ := h
  rw [x.len, hl z]
/-- what a def's body does with what it raises -/
abbrev WF (E : XK) : WX := fun cls d _ H => E cls d H
theorem body_r {ι : Type} {K : PySem.W.Frag} {N : List Str} {ar : ι → List D} {pre : ι → Nat → Prop} {post : ι → Nat → Addr → XFs → Nat → Prop} {t : TS} {E : XK} (hnm : ∀ x, (ar x).all D.nm = true)
    (rd : ∀ (c : Cy) (n : Nat) (x : ι), c.K = K → pre x n → Wr c t ⟨Slo.of (ar x) ++ List.replicate (N.length - (ar x).length) .emp, n⟩ (WF E) fun cl fs e => post x n cl fs e.n)
    (vs : List V) (H : Hp) (Q : VK) (h : SpR K ar pre post vs H Q E) : t { nx := fun _ H' => Q .non H', rt := Q } (L2.start N vs) H := by
  obtain ⟨c, n, z, hK, g, x, hp, k⟩ := h
  have o := start_ok (N := N) g x (hnm z)
  have noown : ∀ a, ¬ ownA (L2.start N vs) (Slo.of (ar z) ++ List.replicate (N.length - (ar z).length) Slo.emp) a := fun a ⟨i, es, y, _⟩ => by
    by_cases hi : i < (ar z).length
    · rw [List.getElem?_append_left (by unfold Slo.of; rw [List.length_map]; exact hi)] at y
      unfold Slo.of at y
      rw [List.getElem?_map, List.getElem?_eq_getElem hi] at y
      cases y
    · rw [List.getElem?_append_right (by unfold Slo.of; rw [List.length_map]; omega), List.getElem?_replicate] at y
      split at y <;> cases y
  refine (rd c n z hK hp).run _ _ H o (fun σ' A' H' e' cls od cl fs p kp _ o' xd => ?_) _
  exact k cls od H' cl fs e'.n p (fun a u nn z => kp a u (fun y => y.elim nn fun y => noown a y) z) o'.good (xd.less fun a z => o'.sub a (.inl z))
/-- a call that surely raises -/
theorem wq_call {ι : Type} {K : PySem.W.Frag} {ar : ι → List D} {pre : ι → Nat → Prop} {post : ι → Nat → Addr → XFs → Nat → Prop} {c : Cy} {sl : List Slo} {nn : Nat} {W : WX} {Φ : Addr → XFs → En → Prop} {ta : TA} (hK : K = c.K)
    (h : Wa c ta ⟨sl, nn⟩ fun ds n => ds.all argOk = true ∧ ∃ z, ds.map arg = ar z ∧ pre z n ∧ ∀ cl fs m, post z n cl fs m → Φ cl fs ⟨sl, m⟩) : Wq c (tCallS (SpR K ar pre post) (WE W) ta) ⟨sl, nn⟩ W Φ := ⟨fun σ A H o x Q => by
  refine h.run σ A H o _ fun vs H1 ds n p e1 g1 y => ?_
  have o1 := o.keep e1 g1
  obtain ⟨p1, z, p2, p3, p4⟩ := p
  subst hK
  refine ⟨c.at_ A o1.at_.k, n, z, rfl, ⟨o1.at_.al, g1.kl⟩, by rw [← p2]; exact dxs_arg o1.at_ p1 y, p3, fun cls od H' cl fs m q ek g' xd => ?_⟩
  have ek' : Ek c H1 H' := ek
  have g2 : Good c m H' := ⟨fun b w => g'.al b (o1.at_.s b w), g'.kl⟩
  exact x σ A H' ⟨sl, m⟩ cls od cl fs (p4 cl fs m q) (Kp.ek (e1.trans ek')) (fun _ z => .inl z) (o1.keep ek' g2) xd⟩
/-! ## two promises of one def -/
def SpO (s1 s2 : Sp) : Sp := fun vs H Q E => s1 vs H Q E ∨ s2 vs H Q E
theorem FnOk.or {P : Program} {w : World} {K : PySem.W.Frag} {mg : Str → Option Value} {base : Heap} {k : Nat} {f : Addr} {fd : FuncData} {ps : List Str} {s1 s2 : Sp} (F : FnOk P w K mg base CX0 k f fd ps s1) (G : FnOk P w K mg base (L2.CX P w) k f fd ps s2) : FnOk P w K mg base (L2.CX P w) k f fd ps (SpO s1 s2) :=
  ⟨fun vs H Q E h => h.elim (F.len vs H Q E) (G.len vs H Q E), fun A outer s H args us vs Q E hr e0 hb hv hs => by
    rcases hs with hs | hs
    · refine codeAny_mono (F.run A outer s H args us vs Q E hr e0 hb hv hs) fun r s' q => ?_
      cases r with
      | ok fl => cases fl <;> exact q
      | error e => exact (show False from q).elim
    · exact G.run A outer s H args us vs Q E hr e0 hb hv hs⟩
end Wx

/-! ### part We2 -/
set_option Elab.async false
set_option linter.all false
set_option maxRecDepth 100000
set_option maxHeartbeats 1000000
set_option autoImplicit false
/-! o * n by an own __mul__; try. -/
namespace Wx
open PySem L2 PyProof.Rows
structure MulK (K : PySem.W.Frag) (C : Addr) : Prop where
  sf : PySem.W.selfFirst K C = true
  hr : PySem.W.findIn K (.ref C) "__rmul__" = some none
  h1 : ∃ fo, PySem.W.findIn K (.type "int") "__mul__" = some fo
  h2 : ∃ ro, PySem.W.findIn K (.type "int") "__rmul__" = some ro
  hs : PySem.W.subIn K (.type "int") (.ref C) = some false
section
variable {X : Cx} {CX : CXT} {k : Nat} {C f : Addr} {fd : FuncData} {ps : List Str} {sp : Sp}
end
section
variable {c : Cy} {sl : List Slo} {nn n : Nat} {C : Addr} {fs : List (Str × PyData)} {te : TE} {ta tb : TE} {Φ : D → Nat → Prop} {K : PySem.W.Frag}
end
end Wx

/-! ### part We3 -/
set_option Elab.async false
set_option linter.all false
set_option maxRecDepth 100000
set_option maxHeartbeats 1000000
set_option autoImplicit false
/-! Bundles of defs that raise; o * n by the bundle; a tuple at a global; abs. -/
namespace Wx
open PySem L2
structure StdE (P : Program) (w : World) (K : PySem.W.Frag) (mg : Str → Option Value) (base : Heap) (k : Nat) (x : Str) (ps : List Str) (sp : Sp) : Prop where
  ex : ∃ f fd, FnOk P w K mg base (L2.CX P w) k f fd ps sp ∧ mg x = some (.ref f) ∧ PySem.W.keepIn K (.ref f) = true ∧ Binds K fd ps []
structure StdX (P : Program) (w : World) (K : PySem.W.Frag) (mg : Str → Option Value) (base : Heap) (k : Nat) (C : Addr) (m : Str) (sp : Sp) : Prop where
  ex : ∃ g fd ps, Meth K C m g ∧ FnOk P w K mg base (L2.CX P w) k g fd ps sp ∧ Binds K fd ps []
def tCallE (sp : Sp) (W : WX) (t : TA) : TE := tCallS sp (WE W) t
section
variable {X : Cx} {k : Nat} {x : Str} {ps : List Str} {sp : Sp} {e : Expr} {es : List Expr} {p pos : Pos} {t : TA} {W : WX} {C : Addr} {a b : Expr} {ta tb : TE}
theorem pe_stdE (F : StdE X.prog X.w X.K X.mg X.base k x ps sp) (hr : Room k X.A) (tk : Takes X W) (hg : Gl X x) (ha : PA X (e :: es) t) (hdb : (x == ("__debug__" : Str)) = false := by decide)
    (he : starEach (e :: es) X.env = (false, eval e X.env) :: starEach es X.env := by rfl) (hpl : (backTo pos (starEach es X.env)).any (·.1) = false := by rfl) : PE X (.Call (.Name x p) (e :: es) [] pos) (tCallE sp W t) := by
  obtain ⟨f, fd, h1, h2, h3, h4⟩ := F.ex
  exact pe_callS h1 hr hg h2 h3 h4 (passAt tk) ha hdb he hpl
end
section
variable {c : Cy} {sl : List Slo} {nn n : Nat} {Φ : D → Nat → Prop} {K : PySem.W.Frag}
end
theorem wq_callE {ι : Type} {K : PySem.W.Frag} {ar : ι → List D} {pre : ι → Nat → Prop} {post : ι → Nat → Addr → XFs → Nat → Prop} {c : Cy} {sl : List Slo} {nn : Nat} {W : WX} {Φ : Addr → XFs → En → Prop} {ta : TA} (hK : K = c.K)
    (h : Wa c ta ⟨sl, nn⟩ fun ds n => ds.all argOk = true ∧ ∃ z, ds.map arg = ar z ∧ pre z n ∧ ∀ cl fs m, post z n cl fs m → Φ cl fs ⟨sl, m⟩) : Wq c (tCallE (SpR K ar pre post) W ta) ⟨sl, nn⟩ W Φ := wq_call hK h
end Wx

/-! ### part Kb -/
set_option Elab.async false
set_option linter.all false
set_option maxRecDepth 100000
set_option maxHeartbeats 1000000
set_option autoImplicit false
/-! try: a caught exception that is kept. -/
namespace Wx
open PySem L2 PyProof.Rows
/-- an exception of the class at cl, without fields, caught and kept -/
def isExc (cl : Addr) (a : Addr) (o : HO) : Prop := o = exc a (.ref cl) none
section
variable {c : Cy} {K : PySem.W.Frag} {A : Addr → Prop} {H : Hp} {σ : L2.St} {e : En} {i : Nat}
theorem own_wipe {sl : List Slo} {a : Addr} (h : ownA (σ.set i none) (sl.set i .emp) a) : ownA σ sl a := by
  obtain ⟨j, w, h1, h2⟩ := h
  by_cases q : i = j
  · subst q
    rw [List.getElem?_set, if_pos rfl] at h1
    split at h1 <;> cases h1
  · rw [List.getElem?_set_ne q] at h1 h2
    exact ⟨j, w, h1, h2⟩
theorem Ok.wipeA (o : Ok c A H σ e) : Ok c A H (σ.set i none) ⟨e.sl.set i .emp, e.n⟩ := by
  by_cases hi : i < e.sl.length
  · exact o.wipe1 hi
  · have hl := o.len
    rw [List.set_eq_of_length_le (l := σ) (by omega), List.set_eq_of_length_le (l := e.sl) (by omega)]
    exact o
/-- .. surely raised, caught, kept -/
theorem ws_tryK {tb : WX → TS} {P : Po} {cC : Value} {ts : TS} {Wout : WX} {Ψ : Addr → XFs → En → Prop} (h : ∀ W, Wr c (tb W) e W Ψ)
    (s : ∀ (cl : Addr) (fs : XFs) (e' : En), Ψ cl fs e' → fs = none ∧ PySem.W.exmOne K (.ref cl) cC = some true ∧ i < e'.sl.length ∧ Ws c ts ⟨e'.sl.set i (.val (.obj (isExc cl))), e'.n⟩ ⟨fun e2 => P.nx ⟨e2.sl.set i .emp, e2.n⟩, P.rt, fun e2 => P.bk ⟨e2.sl.set i .emp, e2.n⟩, fun e2 => P.ct ⟨e2.sl.set i .emp, e2.n⟩⟩) :
    Ws c (fun D σ H => tb (wKeep K cC i ts Wout D) D σ H) e P := ⟨fun σ A H o Dn nx rt bk ct => by
  refine (h _).run σ A H o (fun σ' A' H' e' cls od cl fs p kp w o' xd => ?_) Dn
  obtain ⟨rfl, xd'⟩ := xd
  obtain ⟨rfl, z1, hi, z2⟩ := s cl fs e' p
  have od0 : od = none := xd'
  subst od0
  refine ⟨true, z1, fun _ a ha => ?_, fun z => nomatch z⟩
  have nA : ¬ A' a := o'.fresh ha
  have ek : Ek c H' (upd H' a (exc a (.ref cl) none)) := Ek.new ha
  have o1 := (o'.keep ek (o'.good.new ha)).set_ (i := i) (v := .ref a) (d := .obj (isExc cl)) hi rfl ⟨a, _, rfl, ⟨nA, rfl⟩, upd_same⟩
  have kp1 : Kp c σ e H (upd H' a (exc a (.ref cl) none)) := Kp.trans kp w (Kp.ek ek)
  have w1 : ∀ b, ownA (σ'.set i (some (.ref a))) (e'.sl.set i (.val (.obj (isExc cl)))) b → ownA σ e.sl b ∨ H b = none := fun b z => w b (own_set (e := e') z)
  have gx : ∀ {k : En → Prop} {F : L2.St → Hp → Prop}, Gx c σ H e k F → Gx c (σ'.set i (some (.ref a))) (upd H' a (exc a (.ref cl) none)) ⟨e'.sl.set i (.val (.obj (isExc cl))), e'.n⟩ (fun e2 => k ⟨e2.sl.set i .emp, e2.n⟩) (fun σ' H' => F (σ'.set i none) H') := fun {k F} g =>
    fun σ2 A2 H2 e2 q kp2 w2 o2 => (g.after o kp1 w1 o1) (σ2.set i none) A2 H2 ⟨e2.sl.set i .emp, e2.n⟩ q kp2 (fun b z => w2 b (own_wipe z)) o2.wipeA
  exact z2.run _ A' _ o1 _ (gx nx) (rt.after kp1 w1) (gx bk) (gx ct)⟩
/-- nothing raised -/
theorem ws_tryKN {tb : WX → TS} {P : Po} {cC : Value} {ts : TS} {Wout : WX} (h : ∀ W, Ws c (tb W) e P) : Ws c (fun D σ H => tb (wKeep K cC i ts Wout D) D σ H) e P :=
  ⟨fun σ A H o Dn nx rt bk ct => (h _).run σ A H o Dn nx rt bk ct⟩
end
end Wx

/-! ### part Kc -/
set_option Elab.async false
set_option linter.all false
set_option maxRecDepth 100000
set_option maxHeartbeats 1000000
set_option autoImplicit false
/-! isinstance of a kept exception; tuples of classes. -/
namespace Wx
open PySem L2 PyProof.Rows
/-- isinstance(e, c), e a kept exception of the class at D -/
def rIsX (K : PySem.W.Frag) : List V → Hp → VK → Prop := fun xs H Q => ∃ (a D : Addr) (c : V) (cv : Value) (b : Bool), xs = [.ref a, c] ∧ H a = some (exc a (.ref D) none) ∧ ExcC K D ∧ ClsV c cv ∧ PySem.W.kitOne K (.ref D) cv = some b ∧ Q (.bl b) H
def rIsXT (K : PySem.W.Frag) : List V → Hp → VK → Prop := fun xs H Q => ∃ (a D tp : Addr) (cs : List V) (us : List Value) (b : Bool), xs = [.ref a, .ref tp] ∧ H a = some (exc a (.ref D) none) ∧ ExcC K D ∧ H tp = some (.tup cs) ∧ Paired ClsV cs us ∧ PySem.W.kitAny K (.ref D) us = some b ∧ Q (.bl b) H
section
variable {X : Cx}
theorem exc_inst {P : Program} {w : World} {H : Hp} {h : Heap} {a D : Addr} (x : ObjOk P w H h a (exc a (.ref D) none)) : ∃ oe, PySem.W.InstAt h a oe D none := by
  obtain ⟨⟨oe, vs, e, z, f⟩, _⟩ := x
  refine ⟨oe, ?_⟩
  obtain ⟨oc, od, oda, osl⟩ := oe
  obtain ⟨h1, h2⟩ := z
  dsimp only at h1 h2 f
  subst h1 h2 f
  exact ⟨e, rfl, rfl, trivial⟩
theorem call_isX : CallR X (.builtin "isinstance") (rIsX X.K) := by
  intro pins s σ H xs us Q I r h
  obtain ⟨a, D, c, cv, b, rfl, ha, C, k, e, q⟩ := h
  obtain ⟨u1, u2, rfl, r1, r2⟩ := vals2 r
  cases (show u1 = Value.ref a from r1)
  have e2 := k.eq r2
  subst e2
  obtain ⟨oe, J⟩ := exc_inst (I.hok a _ ha)
  exact PySem.W.kia_one (PySem.W.handS_kitx_exc C.hg C.hk C.hs C.hd C.ha C.hn C.ht C.hm) I.kIn J e (fun z => nomatch z) fun tk => ⟨.bl b, H, I.tok tk, rfl, q⟩
theorem call_isXT : CallR X (.builtin "isinstance") (rIsXT X.K) := by
  intro pins s σ H xs us Q I r h
  obtain ⟨a, D, tp, cs, ws, b, rfl, ha, C, hT, k, e, q⟩ := h
  obtain ⟨u1, u2, rfl, r1, r2⟩ := vals2 r
  cases (show u1 = Value.ref a from r1)
  cases (show u2 = Value.ref tp from r2)
  obtain ⟨oe, J⟩ := exc_inst (I.hok a _ ha)
  obtain ⟨_, its, rv, o, h1, h2, n, h3⟩ := (show ObjOk X.prog X.w H s.heap tp (.tup cs) from I.hok tp _ hT)
  have e3 := ClsV.all k rv
  subst e3
  obtain ⟨oc, od, dt, sl⟩ := o
  simp only at h2 h3
  subst h2 h3
  exact PySem.W.kia_tup (PySem.W.handS_kitx_exc C.hg C.hk C.hs C.hd C.ha C.hn C.ht C.hm) I.kIn J h1 e (fun z => nomatch z) fun tk => ⟨.bl b, H, I.tok tk, rfl, q⟩
theorem isXK {K : PySem.W.Frag} (h : X.K = K) : CallR X (.builtin "isinstance") (rIsX K) := h ▸ call_isX
theorem isXTK {K : PySem.W.Frag} (h : X.K = K) : CallR X (.builtin "isinstance") (rIsXT K) := h ▸ call_isXT
end
def isTup (vs : List V) (_ : Addr) (o : HO) : Prop := o = .tup vs
section
variable {c : Cy} {K : PySem.W.Frag} {cl : Addr} {n : Nat} {Φ : D → Nat → Prop} {sl : List Slo} {nn : Nat} {ta : TA}
theorem cw_isX {t : Value} {v : V} {b : Bool} (hK : K = c.K) (E : ExcC K cl) (k : ClsV v t) (h2 : PySem.W.kitOne K (.ref cl) t = some b) (h : Φ (.py (.bool b)) n) : Cw c (rIsX K) [.obj (isExc cl), .atom v] n Φ := ⟨fun A H vs a x Q q => by
  subst hK
  match vs, x with
  | [v1, w], ⟨x1, x2, _⟩ =>
    obtain ⟨p, o, rfl, ⟨_, e⟩, r⟩ := x1
    have e2 : w = v := x2
    subst e2
    have e : o = exc p (.ref cl) none := e
    subst e
    exact ⟨p, cl, w, t, b, rfl, r, E, k, h2, q _ H _ n h Ek.refl a.good (.bl _)⟩⟩
theorem cw_isXT {cs : List V} {us : List Value} {b : Bool} (hK : K = c.K) (E : ExcC K cl) (k : Paired ClsV cs us) (h2 : PySem.W.kitAny K (.ref cl) us = some b) (h : Φ (.py (.bool b)) n) : Cw c (rIsXT K) [.obj (isExc cl), .obj (isTup cs)] n Φ := ⟨fun A H vs a x Q q => by
  subst hK
  match vs, x with
  | [v1, w], ⟨x1, x2, _⟩ =>
    obtain ⟨p, o, rfl, ⟨_, e⟩, r⟩ := x1
    obtain ⟨tp, o2, rfl, ⟨_, e2⟩, r2⟩ := x2
    have e : o = exc p (.ref cl) none := e
    have e2 : o2 = .tup cs := e2
    subst e e2
    exact ⟨p, cl, tp, cs, us, b, rfl, r, E, r2, k, h2, q _ H _ n h Ek.refl a.good (.bl _)⟩⟩
theorem dxs_atoms {A : Addr → Prop} {H : Hp} : ∀ {vs ws : List V}, DXs c A H vs (ws.map D.atom) → vs = ws
  | [], [], _ => rfl
  | v :: vs, w :: ws, ⟨h, t⟩ => by rw [show v = w from h, dxs_atoms t]
  | [], _ :: _, h => h.elim
  | _ :: _, [], h => h.elim
/-- a tuple of classes -/
theorem wp_tupA (h : Wa c ta ⟨sl, nn⟩ fun ds n => ∃ ws : List V, ds = ws.map D.atom ∧ ws.length ≤ sizeLine ∧ Φ (.obj (isTup ws)) n) : Wp c (tTup ta) ⟨sl, nn⟩ Φ := ⟨fun σ A H o Q k => by
  refine h.run σ A H o _ fun vs H1 ds n p e1 g1 x => ?_
  obtain ⟨ws, rfl, hz, q⟩ := p
  have e := dxs_atoms x
  subst e
  exact ⟨hz, fun r hr => k _ _ _ n q (e1.trans (Ek.new hr)) (g1.new hr) ⟨r, _, rfl, ⟨(o.keep e1 g1).fresh hr, rfl⟩, upd_same⟩⟩⟩
end
end Wx

/-! ### part Kd -/
set_option Elab.async false
set_option linter.all false
set_option maxRecDepth 100000
set_option maxHeartbeats 1000000
set_option autoImplicit false
/-! list.count, list.index over truth values. -/
namespace Wx
open PySem L2 PyProof.Rows
def rCount (K : PySem.W.Frag) : V → List V → Hp → VK → Prop := fun x xs H Q => ∃ (a : Addr) (ys : List V) (y : V), x = V.ref a ∧ xs = [y] ∧ SqL K H a ys ∧ flatV y = true ∧ ys.all flatV = true ∧ Q (.int ((ys.countP fun z => eqV z y : Nat) : Int)) H
theorem countP_vals {y : V} : ∀ {ys : List V} {us : List Value}, Vals ys us → ys.all flatV = true → us.countP (eqU y) = ys.countP fun z => eqV z y
  | _, _, .nil, _ => rfl
  | z :: ys, u :: us, .cons r t, f => by
    rw [List.all_cons, Bool.and_eq_true] at f
    rw [List.countP_cons, List.countP_cons, countP_vals t f.2, eqU_of r f.1]
section
variable {X : Cx}
theorem mt_count : MtR X "list.count" (rCount X.K) := by
  intro pins s σ H x xs v us Q I rx rxs h
  obtain ⟨a, ys, y, rfl, rfl, hs, fy, fys, q⟩ := h
  cases rx
  cases rxs with
  | cons ry rt =>
    rename_i uy ut
    cases rt
    obtain ⟨its, rv, ⟨⟨cls, dd, data, sl⟩, n, ho, hc, hdn, hd⟩, hlen⟩ := I.list hs
    simp only at hc hd
    subst hc hd
    refine call_meets PySem.F.slot_list_count ⟨_, ho, rfl⟩ PySem.F.entry_list_count (PySem.F.args_list_count_2 _ _)
      (SeqAt.list_countAt a its.toArray n dd sl uy (eqU y)) ⟨ho, fun u' hu' => mem_eqAt ry fy rv fys u' (by simpa using hu'), ?_⟩
    refine ⟨.int ((ys.countP fun z => eqV z y : Nat) : Int), H, I.tok _, ?_, q⟩
    have e : its.toArray.toList.countP (eqU y) = ys.countP fun z => eqV z y := countP_vals rv fys
    rw [e]
    exact ⟨_, rfl⟩
end
def bls (bs : List Bool) : List PyData := bs.map PyData.bool
theorem Da.bool_eq {K : PySem.W.Frag} {S : Addr → Prop} {H : Hp} {v : V} {b : Bool} (h : Da K S H v (.bool b)) : v = .bl b := by cases h; rfl
theorem da_bls {K : PySem.W.Frag} {S : Addr → Prop} {H : Hp} : ∀ {xs : List V} {bs : List Bool}, DaL K S H xs (bls bs) → xs = bs.map V.bl
  | [], [], _ => rfl
  | _ :: _, [], h => by cases h
  | [], _ :: _, h => by cases h
  | x :: xs, n :: ns, h => by
    cases h with
    | cons a b =>
      rw [da_bls b, Da.bool_eq a]
      rfl
theorem flat_bls : ∀ bs : List Bool, (bs.map V.bl).all flatV = true
  | [] => rfl
  | b :: bs => by rw [List.map_cons, List.all_cons, flat_bls bs]; rfl
theorem eqV_bl (a b : Bool) : eqV (.bl a) (.bl b) = (a == b) := by cases a <;> cases b <;> rfl
section
variable {c : Cy} {K : PySem.W.Frag} {sl : List Slo} {nn : Nat} {ta te : TE} {Φ : D → Nat → Prop}
/-- xs.count(b), xs a list of truth values that is read -/
theorem wp_countB {i : Nat} {bs : List Bool} {b : Bool} (hK : K = c.K) (hi : sl[i]? = some (.val (.py (.list (bls bs))))) (h : Wp c te ⟨sl, nn⟩ fun d n => d = .py (.bool b) ∧ Φ (.py (.int ((bs.countP fun z => z == b : Nat) : Int))) n) :
    Wp c (tBM K "list" (rCount K) (tVar i) (tCons te tNil)) ⟨sl, nn⟩ Φ := ⟨fun σ A H o Q k => by
  subst hK
  obtain ⟨_, v, h1, h2⟩ := o.val i _ hi
  obtain ⟨a, xs, rfl, hs, hd⟩ := Da.list_at (show Da c.K A H v (.list (bls bs)) from h2)
  refine ⟨.ref a, h1, .inl ⟨rfl, xs, hs⟩, h.run σ A H o _ fun u H1 d n p e1 g1 x => ?_⟩
  obtain ⟨rfl, q⟩ := p
  cases Da.bool_eq (show Da c.K A H1 u (.bool b) from x)
  obtain ⟨a', xs', e', hs', hd'⟩ := Da.list_at (Da.keep (e1.kept o.k) (show Da c.K A H (.ref a) (.list (bls bs)) from h2))
  cases e'
  have ex := da_bls hd'
  refine ⟨a, xs', .bl b, rfl, rfl, hs', rfl, by rw [ex]; exact flat_bls bs, ?_⟩
  have ec : (xs'.countP fun z => eqV z (.bl b)) = bs.countP fun z => z == b := by
    rw [ex, List.countP_map]
    congr 1
  rw [ec]
  exact k _ H1 _ n q e1 g1 (.int _)⟩
/-- xs.index(b), at j for the first time -/
theorem wp_indexB {i j : Nat} {bs : List Bool} {b : Bool} (hK : K = c.K) (hi : sl[i]? = some (.val (.py (.list (bls bs))))) (hj : bs[j]? = some b) (hn : ∀ m, m < j → bs[m]? = some (!b)) (h : Wp c te ⟨sl, nn⟩ fun d n => d = .py (.bool b) ∧ Φ (.py (.int ((j : Nat) : Int))) n) :
    Wp c (tBM K "list" (rIndex K) (tVar i) (tCons te tNil)) ⟨sl, nn⟩ Φ := ⟨fun σ A H o Q k => by
  subst hK
  obtain ⟨_, v, h1, h2⟩ := o.val i _ hi
  obtain ⟨a, xs, rfl, hs, hd⟩ := Da.list_at (show Da c.K A H v (.list (bls bs)) from h2)
  refine ⟨.ref a, h1, .inl ⟨rfl, xs, hs⟩, h.run σ A H o _ fun u H1 d n p e1 g1 x => ?_⟩
  obtain ⟨rfl, q⟩ := p
  cases Da.bool_eq (show Da c.K A H1 u (.bool b) from x)
  obtain ⟨a', xs', e', hs', hd'⟩ := Da.list_at (Da.keep (e1.kept o.k) (show Da c.K A H (.ref a) (.list (bls bs)) from h2))
  cases e'
  have ex := da_bls hd'
  refine ⟨a, xs', .bl b, j, .bl b, rfl, rfl, hs', rfl, by rw [ex]; exact flat_bls bs, by rw [ex, List.getElem?_map, hj]; rfl, by rw [eqV_bl]; cases b <;> rfl, fun m z' hm hz => ?_, k _ H1 _ n q e1 g1 (.int _)⟩
  rw [ex, List.getElem?_map, hn m hm] at hz
  cases hz
  rw [eqV_bl]
  cases b <;> rfl⟩
end
end Wx

/-! ### part Wk -/
set_option Elab.async false
set_option linter.all false
set_option maxRecDepth 100000
set_option maxHeartbeats 1000000
set_option autoImplicit false
/-! Lists of instances: `in`, items, append; pop in a comprehension; zip. -/
namespace GQ
open PySem PySem.Spec PyProof.Rows PySem.SeqAt MeetsSeq MeetsSeq2 MeetsSeq3 SeqRoads2
open AutoSeq1 (wpAny_loadPart')
section
variable {prog : Program} {w : World} {A : Around} {R : Result → Shared → Prop}
end
section
variable {prog : Program} {w : World} {A : Around} {E : Value → Shared → Prop} {s : Shared}
end
end GQ
namespace Wx
open PySem L2
section
variable {X : Cx} {k : Nat} {f C : Addr} {fd : FuncData} {ps : List Str} {sp : Sp}
end
end Wx

/-! ### part Wk2 -/
set_option Elab.async false
set_option linter.all false
set_option maxRecDepth 100000
set_option maxHeartbeats 1000000
set_option autoImplicit false
/-! A list is emptied by pop while a comprehension builds another one, which takes its name. -/
namespace Wx
open PySem L2
section
variable {c : Cy} {B : Addr → Prop} {H : Hp} {σ : St} {e : En}
/-- a place that nobody else holds gets a name -/
theorem Ok.take {D : Addr} {w : Ow} {i : Nat} (o : Ok c B H σ e) (hB : B D) (nS : ¬ c.S0 D) (hn : ∀ (j : Nat) (es : Ow), e.sl[j]? = some (Slo.own es) → σ[j]? = some (some (V.ref D)) → j = i) (t : OwAt c.K B H D w) (hi : i < e.sl.length) :
    Ok c B H (σ.set i (some (.ref D))) ⟨e.sl.set i (.own w), e.n⟩ := by
  refine ⟨by rw [List.length_set, List.length_set]; exact o.len, o.good, fun a z => ?_, o.al, fun j u h => ?_, fun j es h => ?_, fun j l es fs a h1 h2 h3 h4 => ?_⟩
  · rcases z with z | ⟨j, es, h1, h3⟩
    · exact o.sub a (.inl z)
    · by_cases q : i = j
      · subst q
        rw [List.getElem?_set_self (by rw [o.len]; exact hi)] at h3
        cases h3
        exact hB
      · rw [List.getElem?_set_ne q] at h3
        have h1' : e.sl[j]? = some (Slo.own es) := by rw [← List.getElem?_set_ne q]; exact h1
        exact o.sub a (.inr ⟨j, es, h1', h3⟩)
  · by_cases q : i = j
    · subst q
      have h' : (e.sl.set i (Slo.own w))[i]? = some (Slo.val u) := h
      rw [List.getElem?_set_self hi] at h'
      cases h'
    · have h' : e.sl[j]? = some (Slo.val u) := by rw [← List.getElem?_set_ne q]; exact h
      rw [List.getElem?_set_ne q]
      exact o.val j u h'
  · by_cases q : i = j
    · subst q
      have h' : (e.sl.set i (Slo.own w))[i]? = some (Slo.own es) := h
      rw [List.getElem?_set_self hi] at h'
      cases h'
      exact ⟨D, by rw [List.getElem?_set_self (by rw [o.len]; exact hi)], t, nS⟩
    · have h' : e.sl[j]? = some (Slo.own es) := by rw [← List.getElem?_set_ne q]; exact h
      rw [List.getElem?_set_ne q]
      exact o.own j es h'
  · have f : ∀ {m : Nat} {gs : Ow}, (e.sl.set i (Slo.own w))[m]? = some (Slo.own gs) → i ≠ m → e.sl[m]? = some (Slo.own gs) := fun {m gs} h q => by rw [← List.getElem?_set_ne q]; exact h
    by_cases q1 : i = j
    · by_cases q2 : i = l
      · rw [← q1, ← q2]
      · subst q1
        rw [List.getElem?_set_self (by rw [o.len]; exact hi)] at h3
        rw [List.getElem?_set_ne q2] at h4
        cases h3
        exact absurd (hn l fs (f h2 q2) h4).symm q2
    · by_cases q2 : i = l
      · subst q2
        rw [List.getElem?_set_self (by rw [o.len]; exact hi)] at h4
        rw [List.getElem?_set_ne q1] at h3
        cases h4
        exact absurd (hn j es (f h1 q1) h3).symm q1
      · rw [List.getElem?_set_ne q1] at h3
        rw [List.getElem?_set_ne q2] at h4
        exact o.sep j l es fs a (f h1 q1) (f h2 q2) h3 h4
end
section
variable {c : Cy} {P : Po} {wi : TI} {g : TG} {tt : TT} {te : TE} {vs : List Nat}
end
end Wx

/-! ### part Wk3 -/
set_option Elab.async false
set_option linter.all false
set_option maxRecDepth 100000
set_option maxHeartbeats 1000000
set_option autoImplicit false
/-! Lists of instances, told by data. -/
namespace Wx
open PySem L2
mutual
def tupO : PyData → Bool
  | .tuple ds => tupOs ds
  | .none => true
  | .bool _ => true
  | .int _ => true
  | .str _ => true
  | _ => false
def tupOs : List PyData → Bool
  | [] => true
  | d :: ds => tupO d && tupOs ds
end
section
variable {K : PySem.W.Frag} {S : Addr → Prop} {H : Hp}
mutual
theorem Da.fun_ (u : ∀ p xs ys, SqT K H p xs → SqT K H p ys → xs = ys) : ∀ {v : V} {d e : PyData}, tupO d = true → tupO e = true → Da K S H v d → Da K S H v e → d = e
  | _, _, _, _, _, .non, h => by cases h; rfl
  | _, _, _, _, _, .bl b, h => by cases h; rfl
  | _, _, _, _, _, .int i, h => by cases h; rfl
  | _, _, _, _, _, .str x, h => by cases h; rfl
  | _, _, _, p, _, .lst n r t, h => by simp [tupO] at p
  | _, _, _, p, _, .lstK r t, h => by simp [tupO] at p
  | _, _, _, p, q, .tup n r t, h => by
    cases h with
    | lst => simp [tupO] at q
    | lstK => simp [tupO] at q
    | ed => simp [tupO] at q
    | tup n' r' t' =>
      have e := u _ _ _ (.inl r) (.inl r')
      subst e
      exact congrArg PyData.tuple (DaL.fun_ u (by simpa [tupO] using p) (by simpa [tupO] using q) t t')
    | tupK r' t' =>
      have e := u _ _ _ (.inl r) (r' H)
      subst e
      exact congrArg PyData.tuple (DaL.fun_ u (by simpa [tupO] using p) (by simpa [tupO] using q) t t')
  | _, _, _, p, q, .tupK r t, h => by
    cases h with
    | lst => simp [tupO] at q
    | lstK => simp [tupO] at q
    | ed => simp [tupO] at q
    | tup n' r' t' =>
      have e := u _ _ _ (r H) (.inl r')
      subst e
      exact congrArg PyData.tuple (DaL.fun_ u (by simpa [tupO] using p) (by simpa [tupO] using q) t t')
    | tupK r' t' =>
      have e := u _ _ _ (r H) (r' H)
      subst e
      exact congrArg PyData.tuple (DaL.fun_ u (by simpa [tupO] using p) (by simpa [tupO] using q) t t')
theorem DaL.fun_ (u : ∀ p xs ys, SqT K H p xs → SqT K H p ys → xs = ys) : ∀ {vs : List V} {ds es : List PyData}, tupOs ds = true → tupOs es = true → DaL K S H vs ds → DaL K S H vs es → ds = es
  | _, _, _, _, _, .nil, h => by cases h; rfl
  | _, _, _, p, q, .cons x t, h => by
    cases h with
    | cons y t' =>
      simp only [tupOs, Bool.and_eq_true] at p q
      rw [Da.fun_ u p.1 q.1 x y, DaL.fun_ u p.2 q.2 t t']
end
theorem FsR.fun_ (u : ∀ p xs ys, SqT K H p xs → SqT K H p ys → xs = ys) : ∀ {vs : List (Str × V)} {fs gs : List (Str × PyData)}, (∀ p ∈ fs, tupO p.2 = true) → (∀ p ∈ gs, tupO p.2 = true) → FsR K S H vs fs → FsR K S H vs gs → fs = gs
  | [], [], [], _, _, _, _ => rfl
  | (x, v) :: r, (y, d) :: s, (z, e) :: t, p, q, ⟨e1, h1, t1⟩, ⟨e2, h2, t2⟩ => by
    subst e1 e2
    have y1 := Da.fun_ u (p _ List.mem_cons_self) (q _ List.mem_cons_self) h1 h2
    have y2 := FsR.fun_ u (fun a b => p a (List.mem_cons_of_mem _ b)) (fun a b => q a (List.mem_cons_of_mem _ b)) t1 t2
    dsimp only at y1
    rw [y1, y2]
theorem InsL.get {C : Addr} : ∀ {vs : List V} {gs : List (List (Str × PyData))} {i : Nat}, InsL K S H C vs gs → i < gs.length → ∃ g b dx ws, gs[i]? = some g ∧ vs[i]? = some (.ref b) ∧ ¬ S b ∧ H b = some (.ins C dx ws) ∧ FsR K S H ws g
  | [], [], i, _, h => by simp at h
  | v :: r, g :: s, 0, ⟨⟨b, dx, ws, e, n, q, f⟩, t⟩, h => ⟨g, b, dx, ws, by simp, by simp [e], n, q, f⟩
  | v :: r, g :: s, i + 1, ⟨_, t⟩, h => by
    obtain ⟨g', b, dx, ws, h1, h2, h3⟩ := InsL.get (i := i) t (by simpa using h)
    exact ⟨g', b, dx, ws, by simpa using h1, by simpa using h2, h3⟩
  | [], _ :: _, _, h, _ => h.elim
  | _ :: _, [], _, h, _ => h.elim
theorem InsL.snoc {C : Addr} {v : V} {g : List (Str × PyData)} (x : ∃ b dx vs, v = .ref b ∧ ¬ S b ∧ H b = some (.ins C dx vs) ∧ FsR K S H vs g) : ∀ {vs : List V} {gs : List (List (Str × PyData))}, InsL K S H C vs gs → InsL K S H C (vs ++ [v]) (gs ++ [g])
  | [], [], _ => ⟨x, True.intro⟩
  | v :: r, g :: s, ⟨h, t⟩ => ⟨h, InsL.snoc x t⟩
  | [], _ :: _, h => h.elim
  | _ :: _, [], h => h.elim
end
section
variable {c : Cy} {K : PySem.W.Frag} {n nn : Nat} {Φ : D → Nat → Prop} {C : Addr} {fs : List (Str × PyData)} {gs : List (List (Str × PyData))} {sl : List Slo} {te ty : TE} {P : Po} {Ψ : Ow → Nat → Prop}
end
end Wx

/-! ### part Wk4 -/
set_option Elab.async false
set_option linter.all false
set_option maxRecDepth 100000
set_option maxHeartbeats 1000000
set_option autoImplicit false
/-! zip of two lists; the popping comprehension's derivation. -/
namespace Wx
open PySem L2
section
variable {c : Cy} {m : Bool} {K : PySem.W.Frag} {A M : Addr → Prop} {H : Hp} {v : V} {Θ : List D → Nat → Prop} {ta : TA}
end
section
variable {X : Cx} {K : PySem.W.Frag} {e e2 : Expr} {ta : TA} {p pos tpos : Pos} {elts : List Expr} {kk : Nat}
end
section
variable {c : Cy} {K : PySem.W.Frag} {te te2 : TE} {P : Po}
end
end Wx

/-! ### part Xe -/
set_option Elab.async false
set_option linter.all false
set_option maxRecDepth 100000
set_option maxHeartbeats 2000000
set_option autoImplicit false
/-! enumerate of a tuple. -/
namespace PySem
open AutoSeq1 (wpAny_loadPart')
section
variable {prog : Program} {w : World} {A : Around} {E : Value → Shared → Prop} {s : Shared}
end
theorem Draws.tup {prog : Program} {w : World} {A : Around} (hh : A.handled = none) (it l : Addr) (hne : l ≠ it) (items : Array Value) :
    Draws prog w A it [it, l] items.size (fun i v => items[i]? = some v) (fun i h => h.IsTupleIter it l i ∧ h.IsTuple l items) where
  live := fun _ _ st => let ⟨o, ho, _⟩ := st.1; ⟨o, ho⟩
  frame := fun _ _ _ st hk => ⟨st.1.at fun o e => hk it (by simp) o e, st.2.at fun o e => hk l (by simp) o e⟩
  item := fun i s Q E hi st hQ => by
    refine RZ.nextOf_tuple_item st.1 st.2 (x := items[i]) (by simp [hi]) fun h' hit' hs' => ?_
    exact hQ _ h' s.toks (by simp [hi]) ⟨hit', st.2.extBut hs'.extBut hne⟩ hs'
  done := fun s Q E st hE => RZ.nextOf_tuple_end hh st.1 st.2 (by simp) hE
end PySem
namespace L2
open PySem PySem.Spec PyProof.Rows
end L2

/-! ### part Xr -/
set_option Elab.async false
set_option linter.all false
set_option maxRecDepth 100000
set_option maxHeartbeats 1000000
set_option autoImplicit false
/-! Texts, labels, dicts: more rules. -/
namespace L2
open PySem PySem.Spec PyProof.Rows
section
variable {X : Cx}
end
end L2

/-! ### part Xs -/
set_option Elab.async false
set_option linter.all false
set_option maxRecDepth 100000
set_option maxHeartbeats 1000000
set_option autoImplicit false
/-! Texts, labels, dicts: the rules, told by data. -/
namespace Wx
open PySem L2
/-! ## labels -/
instance memDec (s : Key) (l : List Key) : Decidable (s ∈ l) := @List.instDecidableMemOfLawfulBEq Key instBEqOfDecidableEq inferInstance s l
def lab : Key → PyData
  | .inl i => .int i
  | .inr s => .str s
theorem eqv_lab (k l : Key) : PyData.eqv (lab k) (lab l) = decide (k = l) := by
  cases k <;> cases l <;> simp [lab, PyData.eqv, Bool.beq_eq_decide_eq]
/-! ## the signs of a text -/
def signs (x : Str) : List D := x.cps.toList.map fun c => D.py (.str ⟨#[c]⟩)
theorem signs_len (x : Str) : (signs x).length = x.cps.size := by unfold signs; rw [List.length_map]; simp
theorem signs_item {x : Str} {i : Nat} {d : D} (h : (signs x)[i]? = some d) : ∃ c, x.cps[i]? = some c ∧ c ∈ x.cps.toList ∧ d = .py (.str ⟨#[c]⟩) := by
  unfold signs at h
  rw [List.getElem?_map] at h
  cases q : x.cps.toList[i]? with
  | none => rw [q] at h; cases h
  | some c => rw [q] at h; cases h; exact ⟨c, by simpa using q, List.mem_of_getElem? q, rfl⟩
def rInSg : R2 := fun x y H Q => ∃ (c : Nat) (z : Str), x = .str ⟨#[c]⟩ ∧ y = .str z ∧ Q (.bl (decide (c ∈ z.cps.toList))) H
theorem opInSg {X : Cx} : OpR X (compareOp .In) rInSg := op_in_sign
def GStr (mg : Str → Option Value) (x : Str) (s : Str) : Prop := ∃ t, mg x = some (.str s t)
theorem pe_gstr {X : Cx} {x s : Str} {pos : Pos} (h : GStr X.mg x s) (hg : Gl X x) (hd : (x == ("__debug__" : Str)) = false := by decide) : PE X (.Name x pos) (tC (.str s)) := by
  obtain ⟨t, h⟩ := h
  exact pe_glob hg h ⟨t, rfl⟩ hd
section
variable {c : Cy} {m : Bool} {K : PySem.W.Frag} {A M : Addr → Prop} {H : Hp} {v : V} {Θ : List D → Nat → Prop} {ta : TA} {te ty tx td : TE} {sl : List Slo} {n nn : Nat} {Φ : D → Nat → Prop} {Ψ : Ow → Nat → Prop} {P : Po}
theorem wi_str (h : Wp c te ⟨sl, nn⟩ fun d n => ∃ x, d = .py (.str x) ∧ Θ (signs x) n) : Wi c m (iStr te) ⟨sl, nn⟩ Θ := ⟨fun σ A H o R k => by
  refine h.run σ A H o _ fun v H1 d n p e1 g1 x => ?_
  obtain ⟨z, rfl, q⟩ := p
  cases Da.str_eq x
  refine ⟨z, rfl, k _ H1 _ n q e1 g1 ⟨fun H' i kk hi => by rw [signs_len] at hi; exact hi, fun H' i kk hi => by rw [signs_len] at hi; exact hi, fun H' i y H'' kk hi w => ?_⟩⟩
  obtain ⟨rfl, ch, hc, rfl⟩ := w
  refine ⟨.py (.str ⟨#[ch]⟩), ?_, .inl rfl, fun B _ _ _ => .str _⟩
  unfold signs
  rw [List.getElem?_map, show z.cps.toList[i]? = some ch by simpa using hc]
  rfl⟩
theorem rw_inSg {ch : Nat} {z : Str} (h : Φ (.py (.bool (decide (ch ∈ z.cps.toList)))) n) : Rw c rInSg (.py (.str ⟨#[ch]⟩)) (.py (.str z)) n Φ := ⟨fun A H v1 v2 a x1 x2 Q k => by
  cases Da.str_eq x1
  cases Da.str_eq x2
  exact ⟨ch, z, rfl, rfl, k _ H _ n h Ek.refl a.good (.bl _)⟩⟩
/-! ## d.get(k, x), k not in d -/
/-- what holds a dict to be read -/
def RdD (c : Cy) (A : Addr → Prop) (H : Hp) (v : V) (ds : List (Key × PyData)) : Prop := ∃ a kvs, v = .ref a ∧ Rd H a (.dK kvs) ∧ KvR c.K A H kvs ds
def Slo.dict (s : Slo) (ds : List (Key × PyData)) : Prop := s = .own (.dct ds) ∨ s = .val (.dct ds) ∨ s = .val (.dcl ds)
theorem Ok.dict {σ : St} {e : En} (o : Ok c A H σ e) {i : Nat} {s : Slo} {ds : List (Key × PyData)} (hi : e.sl[i]? = some s) (hs : s.dict ds) : ∃ v, σ[i]? = some (some v) ∧ RdD c A H v ds := by
  rcases hs with rfl | rfl | rfl
  · obtain ⟨a, h1, ⟨kvs, h2, h3⟩, h4⟩ := o.own i _ hi
    exact ⟨_, h1, a, kvs, rfl, .inl h2, h3⟩
  · obtain ⟨_, v, h1, a, kvs, rfl, na, h2, h3⟩ := o.val i _ hi
    exact ⟨_, h1, a, kvs, rfl, .inl h2, h3⟩
  · obtain ⟨_, v, h1, a, kvs, od, rfl, na, h2, h3⟩ := o.val i _ hi
    exact ⟨_, h1, a, kvs, rfl, .inr ⟨od, h2⟩, h3⟩
/-! ## enumerate, items, sum -/
def enumD (ds : List PyData) : List D := ds.mapIdx fun i p => D.py (.tuple [.int (i : Int), p])
theorem enumD_len (ds : List PyData) : (enumD ds).length = ds.length := List.length_mapIdx
theorem enumD_get {ds : List PyData} {i : Nat} : (enumD ds)[i]? = (ds[i]?).map fun p => D.py (.tuple [.int (i : Int), p]) := by unfold enumD; rw [List.getElem?_mapIdx]
theorem KvR.item : ∀ {kvs : List (Key × V)} {ds : List (Key × PyData)} {i : Nat} {k : Key} {v : V}, KvR K A H kvs ds → kvs[i]? = some (k, v) → ∃ p, ds[i]? = some (k, p) ∧ Da K A H v p
  | [], _, i, k, v, _, h => by simp at h
  | (x, u) :: r, (y, d) :: s, 0, k, v, ⟨e, h, t⟩, q => by
    simp at q
    obtain ⟨rfl, rfl⟩ := q
    exact ⟨d, by simp [e], h⟩
  | (x, u) :: r, (y, d) :: s, i + 1, k, v, ⟨e, h, t⟩, q => by
    obtain ⟨p, h1, h2⟩ := KvR.item (i := i) t (by simpa using q)
    exact ⟨p, by simpa using h1, h2⟩
  | _ :: _, [], _, _, _, h, _ => h.elim
end
end Wx

/-! ### part Xt -/
set_option Elab.async false
set_option linter.all false
set_option maxRecDepth 100000
set_option maxHeartbeats 1000000
set_option autoImplicit false
/-! Locked dicts, three at once, insert, join, dict(..), dict comprehensions. -/
namespace Wx
open PySem L2
mutual
/-- data that stands beside a locked dict stays when the dict is unlocked -/
theorem Da.off {K : PySem.W.Frag} {A : Addr → Prop} {H : Hp} {a : Addr} {od : PySem.Obj} {kvs : List (Key × V)} {u : HO} (ha : H a = some (.frz od (.dK kvs))) : ∀ {v : V} {d : PyData}, Da K (fun b => A b ∧ b ≠ a) H v d → (A a) → Da K A (upd H a u) v d
  | _, _, .non, _ => .non
  | _, _, .bl b, _ => .bl b
  | _, _, .int i, _ => .int i
  | _, _, .str x, _ => .str x
  | _, _, .ed (a := b) n r, aA => by
    have ne : b ≠ a := fun q => by
      subst q
      rw [ha] at r; cases r
    exact .ed (fun z => n ⟨z, ne⟩) (by rw [upd_ne ne]; exact r)
  | _, _, .lst (a := b) n r t, aA => by
    have ne : b ≠ a := fun q => by
      subst q
      rcases r with r | ⟨o, r⟩ <;> rw [ha] at r <;> cases r
    exact .lst (fun z => n ⟨z, ne⟩) (by
      rcases r with r | ⟨o, r⟩
      · exact .inl (by rw [upd_ne ne]; exact r)
      · exact .inr ⟨o, by rw [upd_ne ne]; exact r⟩) (DaL.off ha t aA)
  | _, _, .tup (a := b) n r t, aA => by
    have ne : b ≠ a := fun q => by
      subst q
      rcases r with r | ⟨o, r⟩ <;> rw [ha] at r <;> cases r
    exact .tup (fun z => n ⟨z, ne⟩) (by
      rcases r with r | ⟨o, r⟩
      · exact .inl (by rw [upd_ne ne]; exact r)
      · exact .inr ⟨o, by rw [upd_ne ne]; exact r⟩) (DaL.off ha t aA)
  | _, _, .lstK r t, aA => .lstK r (DaL.off ha t aA)
  | _, _, .tupK r t, aA => .tupK r (DaL.off ha t aA)
theorem DaL.off {K : PySem.W.Frag} {A : Addr → Prop} {H : Hp} {a : Addr} {od : PySem.Obj} {kvs : List (Key × V)} {u : HO} (ha : H a = some (.frz od (.dK kvs))) : ∀ {vs : List V} {ds : List PyData}, DaL K (fun b => A b ∧ b ≠ a) H vs ds → (A a) → DaL K A (upd H a u) vs ds
  | _, _, .nil, _ => .nil
  | _, _, .cons h t, aA => .cons (Da.off ha h aA) (DaL.off ha t aA)
end
section
variable {c : Cy} {A B : Addr → Prop} {H : Hp} {σ : St} {e : En} {K : PySem.W.Frag} {te tb tc : TE} {sl : List Slo} {n nn : Nat} {Φ : D → Nat → Prop} {Ψ : Ow → Nat → Prop} {P : Po}
/-- a name is forgotten, what it holds stays -/
theorem Ok.drop {i : Nat} (o : Ok c A H σ e) : Ok c A H σ ⟨e.sl.set i .emp, e.n⟩ := by
  have f : ∀ {m : Nat} {s : Slo}, s ≠ .emp → (e.sl.set i Slo.emp)[m]? = some s → e.sl[m]? = some s ∧ i ≠ m := fun {m s} hs h => by
    by_cases q : i = m
    · subst q
      rw [List.getElem?_set] at h
      rw [if_pos rfl] at h
      split at h <;> cases h
      exact absurd rfl hs
    · rw [List.getElem?_set_ne q] at h
      exact ⟨h, q⟩
  refine ⟨by rw [List.length_set]; exact o.len, o.good, fun a z => o.sub a (z.elim .inl fun w => .inr (own_emp2 w)), o.al, fun j u h => o.val j u (f (s := .val u) (fun z => nomatch z) h).1, fun j w h => o.own j w (f (s := .own w) (fun z => nomatch z) h).1, fun j l w w' a h1 h2 h3 h4 => o.sep j l w w' a (f (s := .own w) (fun z => nomatch z) h1).1 (f (s := .own w') (fun z => nomatch z) h2).1 h3 h4⟩
end
end Wx

/-! ### part Xu -/
set_option Elab.async false
set_option linter.all false
set_option maxRecDepth 100000
set_option maxHeartbeats 1000000
set_option autoImplicit false
/-! Dicts given back, dict comprehensions, dict(..), insert, join. -/
namespace Wx
open PySem L2
section
variable {c : Cy} {A B : Addr → Prop} {H : Hp} {σ : St} {e : En} {K : PySem.W.Frag} {te tb tc to : TE} {sl : List Slo} {n nn : Nat} {Φ : D → Nat → Prop} {Ψ : Ow → Nat → Prop} {P : Po}
end
end Wx

/-! ### part Xv -/
set_option Elab.async false
set_option linter.all false
set_option maxRecDepth 100000
set_option maxHeartbeats 1000000
set_option autoImplicit false
/-! Dict comprehensions. -/
namespace Wx
open PySem L2
section
variable {c : Cy}
end
end Wx

/-! ### part Xp -/
set_option Elab.async false
set_option linter.all false
set_option maxRecDepth 100000
set_option maxHeartbeats 1000000
set_option autoImplicit false
/-! The plain law of the fewest instructions. -/
namespace Wx
open PySem L2
/-! ## tallies -/
/-! ## the number -/
end Wx

/-! ### part T0 -/
set_option Elab.async false
set_option linter.all false
set_option maxRecDepth 100000
set_option maxHeartbeats 1000000
set_option autoImplicit false
/-! The texts of instructions. -/
namespace Wx
open PySem L2
/-- a number as a text -/
def txN (n : Nat) : Str := Str.ofString (toString ((n : Nat) : Int))
theorem txN_cps (n : Nat) : (txN n).cps.toList = TL.numL n := TL.tl_num n
theorem txN_len (n : Nat) : (txN n).length = (TL.numL n).length := by
  rw [← txN_cps]
  exact (Array.length_toList).symm
theorem txN_pos (n : Nat) : 1 ≤ (txN n).length := by
  rw [txN_len]
  exact List.length_pos_iff.mpr (TL.numL_ne n)
theorem txN_le {n k : Nat} (hk : 0 < k) (h : n < 10 ^ k) : (txN n).length ≤ k := by
  rw [txN_len]
  exact TL.numL_len hk h
theorem txN_int {n : Nat} (h : n < 10 ^ 200) : intText? (txN n) = some (n : Int) := TL.int_num (Nat.le_trans (TL.numL_len (by decide) h) (by decide))
theorem num_head (n : Nat) : ∃ c r, TL.numL n = c :: r ∧ 48 ≤ c ∧ c ≤ 57 ∧ (c = 48 → n = 0) := by
  induction n using Nat.strongRecOn with
  | ind n ih =>
    by_cases h : n < 10
    · exact ⟨48 + n, [], TL.numL_lt h, by omega, by omega, by omega⟩
    · obtain ⟨c, r, e, h1, h2, h3⟩ := ih (n / 10) (by omega)
      refine ⟨c, r ++ [48 + n % 10], by rw [TL.numL_step (by omega), e]; rfl, h1, h2, fun z => ?_⟩
      have := h3 z
      omega
theorem num_sign {n c : Nat} (h : c ∈ TL.numL n) : 48 ≤ c ∧ c ≤ 57 := by
  induction n using Nat.strongRecOn with
  | ind n ih =>
    by_cases g : n < 10
    · rw [TL.numL_lt g] at h
      have := List.mem_singleton.mp h
      omega
    · rw [TL.numL_step (by omega)] at h
      rcases List.mem_append.mp h with h | h
      · exact ih (n / 10) (by omega) h
      · have := List.mem_singleton.mp h
        omega
theorem txN_inj {m n : Nat} (h : txN m = txN n) : m = n := TL.numL_inj (by rw [← txN_cps, ← txN_cps, h])
/-! ## instructions -/
inductive Wd where
  | d
  | p (n : Nat)
  | r (n : Nat)
  | c (v : Int)
deriving DecidableEq
/-- a text from its signs -/
def sg (l : List Nat) : Str := ⟨l.toArray⟩
theorem sg_len (l : List Nat) : (sg l).length = l.length := by
  show l.toArray.size = _
  simp
theorem str_sg (z : Str) : z = sg z.cps.toList := by
  cases z
  rfl
theorem txN_sg (n : Nat) : txN n = sg (TL.numL n) := by
  rw [str_sg (txN n), txN_cps]
def Wd.sg : Wd → List Nat
  | .d => [100]
  | .p n => 112 :: TL.numL n
  | .r n => 114 :: TL.numL n
  | .c v => if v < 0 then 45 :: TL.numL v.natAbs else TL.numL v.natAbs
theorem wd_c (v : Int) : (Wd.c v).sg = if v < 0 then 45 :: TL.numL v.natAbs else TL.numL v.natAbs := rfl
def Wd.tx (w : Wd) : Str := Wx.sg w.sg
def okWd : Wd → Prop
  | .d => True
  | .p n => n ≤ 98
  | .r n => 1 ≤ n ∧ n ≤ 99
  | .c v => -(10 ^ 30) ≤ v ∧ v ≤ 10 ^ 30
theorem cut_head (z : Str) {c : Nat} {r : List Nat} (h : z.cps.toList = c :: r) : cutS z none (some 1) = sg [c] := by
  have hl : z.length = r.length + 1 := by
    show z.cps.size = _
    rw [← Array.length_toList, h]
    rfl
  unfold cutS
  rw [h, HT.sIx_none, show (some (1 : Int)) = some ((1 : Nat) : Int) from rfl, HT.sIx_nat, hl]
  simp [sg]
theorem cut_tail (z : Str) {c : Nat} {r : List Nat} (h : z.cps.toList = c :: r) : cutS z (some 1) none = sg r := by
  have hl : z.length = r.length + 1 := by
    show z.cps.size = _
    rw [← Array.length_toList, h]
    rfl
  unfold cutS
  rw [h, HT.sIx_none, show (some (1 : Int)) = some ((1 : Nat) : Int) from rfl, HT.sIx_nat, hl]
  simp [sg]
theorem wd_len {w : Wd} (h : okWd w) : 1 ≤ w.sg.length ∧ w.sg.length ≤ 33 := by
  have b : ∀ n : Nat, n < 10 ^ 31 → 1 ≤ (TL.numL n).length ∧ (TL.numL n).length ≤ 31 := fun n hn => ⟨List.length_pos_iff.mpr (TL.numL_ne n), TL.numL_len (by decide) hn⟩
  cases w with
  | d => exact ⟨by decide, by decide⟩
  | p n =>
    have h' : n ≤ 98 := h
    have := b n (by omega)
    show 1 ≤ _ + 1 ∧ _ + 1 ≤ 33
    omega
  | r n =>
    have h' : 1 ≤ n ∧ n ≤ 99 := h
    have := b n (by omega)
    show 1 ≤ _ + 1 ∧ _ + 1 ≤ 33
    omega
  | c v =>
    have h' : -(10 ^ 30) ≤ v ∧ v ≤ 10 ^ 30 := h
    have := b v.natAbs (by omega)
    rw [wd_c]
    split
    · show 1 ≤ _ + 1 ∧ _ + 1 ≤ 33
      omega
    · omega
theorem wd_sign {w : Wd} {x : Nat} (h : x ∈ w.sg) : 45 ≤ x ∧ x ≤ 114 := by
  cases w with
  | d =>
    have := List.mem_singleton.mp h
    omega
  | p n =>
    rcases List.mem_cons.mp h with h | h
    · omega
    · have := num_sign h; omega
  | r n =>
    rcases List.mem_cons.mp h with h | h
    · omega
    · have := num_sign h; omega
  | c v =>
    rw [wd_c] at h
    split at h
    · rcases List.mem_cons.mp h with h | h
      · omega
      · have := num_sign h; omega
    · have := num_sign h; omega
theorem sg_ok {l : List Nat} (h : ∀ x ∈ l, x < 1000) : PyData.strOk (sg l) = true := by
  unfold PyData.strOk
  rw [Array.all_eq_true_iff_forall_mem]
  intro ch hc
  have := h ch (by simpa [sg] using hc)
  exact decide_eq_true (by omega)
theorem wd_ok (w : Wd) : PyData.strOk w.tx = true := sg_ok fun x hx => by have := wd_sign hx; omega
theorem sg_inj {a b : List Nat} (h : sg a = sg b) : a = b := by
  have := congrArg (fun z : Str => z.cps.toList) h
  exact this
end Wx

/-! ### part T1 -/
set_option Elab.async false
set_option linter.all false
set_option maxRecDepth 100000
set_option maxHeartbeats 1000000
set_option autoImplicit false
namespace Wx
open PySem L2
def rINTS : List V → Hp → VK → Prop := fun xs H Q => ∃ a n, xs = [.str a] ∧ PySem.intText? a = some n ∧ a.length ≤ 640 ∧ Q (.int n) H
theorem callINTS {X : Cx} : CallR X (.type "int") rINTS := call_int_str
theorem cw_intS {c : Cy} {Φ : D → Nat → Prop} {n : Nat} {ds : List D} (h : One ds fun d => ∃ a v, d = .py (.str a) ∧ intText? a = some v ∧ a.length ≤ 640 ∧ Φ (.py (.int v)) n) : Cw c rINTS ds n Φ := ⟨fun A H vs at' x Q k => by
  obtain ⟨v, d, rfl, x, a, i, rfl, h1, h2, q⟩ := one_of h x
  cases Da.str_eq x
  exact ⟨a, i, rfl, h1, h2, k _ H _ n q Ek.refl at'.good (.int _)⟩⟩
theorem digit_in {ch v : Nat} (h : ch ∈ (txN v).cps.toList) : decide (ch ∈ (Str.ofString "0123456789").cps.toList) = true := by
  rw [txN_cps] at h
  have h2 := num_sign h
  refine decide_eq_true ?_
  have w : ∀ c : Fin 58, 48 ≤ c.val → c.val ∈ (Str.ofString "0123456789").cps.toList := by decide +kernel
  exact w ⟨ch, by omega⟩ h2.1
theorem txN_ok (v : Nat) : PyData.strOk (txN v) = true := by
  unfold PyData.strOk
  rw [Array.all_eq_true_iff_forall_mem]
  intro ch hc
  have h2 := num_sign (n := v) (by rw [← txN_cps]; simpa using hc)
  exact decide_eq_true (by omega)
theorem txN_zero {v : Nat} : decide (txN v = Str.ofString "0") = decide (v = 0) := by
  rw [decide_eq_decide]
  constructor
  · intro h
    exact txN_inj (h.trans (show Str.ofString "0" = txN 0 by decide +kernel))
  · rintro rfl
    decide +kernel
theorem eqv_strD (a b : Str) : PyData.eqv (.str a) (.str b) = decide (a = b) := by
  have h := eqv_lab (.inr a) (.inr b)
  rw [show PyData.eqv (.str a) (.str b) = PyData.eqv (lab (.inr a)) (lab (.inr b)) from rfl, h, decide_eq_decide]
  exact ⟨fun z => Sum.inr.inj z, fun z => by rw [z]⟩

section
variable {P : Program} {w : World} {K : PySem.W.Frag} {mg : Str → Option Value} {base : Heap} {f C : Addr} {fd : FuncData}
abbrev sp_is_decimal (K : PySem.W.Frag) : Sp := SpX (ι := Nat × Int × Int) K (fun x => [.py (.str (txN x.1)), .py (.int x.2.1), .py (.int x.2.2)]) (fun x _ => x.1 < 10 ^ 31) fun x n d m => d = .py (.bool (decide (x.2.1 ≤ x.1 ∧ (x.1 : Int) ≤ x.2.2))) ∧ m = n
theorem ln_is_decimal (x : Nat × Int × Int) : [D.py (.str (txN x.1)), .py (.int x.2.1), .py (.int x.2.2)].length = 3 := rfl
theorem nm_is_decimal (x : Nat × Int × Int) : [D.py (.str (txN x.1)), .py (.int x.2.1), .py (.int x.2.2)].all D.nm = true := rfl
theorem sc_is_decimal : FnScope ["signs", "low", "high", "sign"] ["signs", "low", "high"] (defScope (top 41)) := ⟨rfl, rfl, rfl, by decide +kernel, rfl, by decide +kernel, by decide +kernel⟩
theorem ok_is_decimal (F : FnP K "is_decimal" "is_decimal" (top 41) f fd) (i_MOST_DIGITS : GInt mg "MOST_DIGITS" 31) (g_all : mg "all" = none) (g_len : mg "len" = none) (s_DIGITS : GStr mg "DIGITS" "0123456789") (g_int : mg "int" = none) : FnOk P w K mg base CX0 1 f fd ["signs", "low", "high"] (sp_is_decimal K) := by
  refine F.ok sc_is_decimal (sx_len ln_is_decimal) (fun cdv A outer s H vs Q E hr h => ?_)
  have nd := sc_is_decimal.nd
  refine ⟨_, PSs.nox (pss_cons (ps_if (PW.pt (pw_or (pt_not (pt_chain op_le op_le (pe_int) (pe_callB (lenK (K := K) rfl) rfl g_len PySem.boot_len (pa_cons (pv 0) (pa_nil))) (pe_gint i_MOST_DIGITS rfl))) (pw_or1 (pt_not (truK (K := K) rfl (pe_callB (allK (K := K) rfl rfl) rfl g_all bt_all (pa_cons (pe_lc (own := [("sign", 3)]) rfl nd (pi_str (pv 0)) (blkOk_by (N := ["signs", "low", "high", "sign"]) (sc := (defScope (top 41))) (by decide +kernel)) (fun _ _ _ _ _ => pg_name (i := 3) nd rfl (Or.inl rfl) (.inr rfl)) (fun _ _ _ _ _ => pts_nil) (fun _ _ _ _ _ => pe_cmpR opInSg (pv 3) (pe_gstr s_DIGITS rfl) (by rfl))) (pa_nil))) (by intro _; rfl)))))) (pss_one (ps_ret (pe_bl))) (pss_nil))
 (pss_one (ps_ret (pe_and (pe_or (pe_cmpR (eqK (K := K) rfl (room64 hr)) (pv 0) (pe_str) (nomark _)) (pe_one (pe_cmpR (neK (K := K) rfl (room64 hr)) (pe_ix (ixK (K := K) rfl) (pv 0) (pe_int) (fun _ _ => rfl)) (pe_str) (nomark _)))) (pe_one (pe_chain op_le op_le (pv 1) (pe_callTy callINTS rfl g_int bt_int (pa_cons (pv 0) (pa_nil))) (pv 2))))))), ?_⟩
  refine body_x nm_is_decimal ?_ vs H Q E h
  clear h hr
  intro c n x hK hp
  (subst hK)
  try clear i_MOST_DIGITS g_all g_len s_DIGITS g_int F
  obtain ⟨v, lo, hh⟩ := x
  have hv : v < 10 ^ 31 := hp
  have l1 := txN_pos v
  have l2 := txN_le (k := 31) (by decide) hv
  have l3 : (txN v).length ≤ sizeLine := Nat.le_trans l2 (by rw [sizeLine_eq]; decide)
  dsimp only
  walk_at "WK"
  refine ⟨l3, ?_⟩
  walk_at "WK"
  refine ⟨fun _ => ?_, fun c1 => absurd (of_decide_eq_false c1) (by omega)⟩
  walk_at "WK"
  rw [decide_eq_true (show ((txN v).length : Int) ≤ 31 by omega)]
  refine ⟨fun _ => ?_, fun z => (nomatch z)⟩
  walk_at "WK"
  refine wp_new (wn_lc (fun v hv => ?_) (wi_str ?_))
  · have : v = 3 := by simpa using hv
    subst this
    exact Nat.le_of_ble_eq_true rfl
  walk_at "WK"
  refine ⟨txN v, rfl, ?_⟩
  refine ⟨fun i acc m' => m' = n ∧ acc = (List.replicate i true).map PyData.bool, ⟨rfl, rfl⟩, by rw [signs_len]; exact Nat.lt_of_le_of_lt l2 (by decide), ?_, ?_⟩
  · rintro i acc m' d hd ⟨rfl, rfl⟩
    obtain ⟨s, _, hs, rfl⟩ := signs_item hd
    refine wg_name ⟨rfl, ?_⟩ (Nat.le_of_ble_eq_true rfl) (by decide)
    refine wt_yes ⟨fun _ => ?_, fun z => nomatch z⟩
    walk_at "WK"
    refine rw_inSg ?_
    rw [digit_in hs]
    refine ⟨rfl, ?_⟩
    rw [List.replicate_succ', List.map_append]
    rfl
  rintro acc m' ⟨rfl, rfl⟩
  walk_at "WK"
  refine cw_all rfl (one_mk (ls_py ⟨_, rfl, ?_⟩))
  have e : (List.replicate (signs (txN v)).length true).all id = true := List.all_eq_true.mpr fun b hb => by rw [List.eq_of_mem_replicate hb]; rfl
  dsimp only
  rw [e]
  walk_at "WK"
  refine ⟨fun z => (nomatch z), fun _ => ?_⟩
  walk_at "WK"
  refine ⟨shp_str (txN_ok v), shp_str (by decide +kernel), ?_⟩
  rw [eqv_strD, txN_zero]
  have rest : Wp c (tChain (rI0 fun i j => V.bl (decide (i ≤ j))) (rI0 fun i j => V.bl (decide (i ≤ j))) (tVar 1) (tCB rINTS (tCons (tVar 0) tNil)) (tVar 2)) ⟨[.val (.py (.str (txN v))), .val (.py (.int lo)), .val (.py (.int hh)), .emp], m'⟩ fun d n => frz d = .py (.bool (decide (lo ≤ v ∧ (v : Int) ≤ hh))) ∧ n = m' := by
    walk_at "WK"
    refine cw_intS (one_mk ⟨_, _, rfl, txN_int (Nat.lt_of_lt_of_le hv (by decide)), Nat.le_trans l2 (by decide), ?_⟩)
    walk_at "WK"
    refine ⟨fun q1 => ?_, fun q1 => ?_⟩
    · have q1' := of_decide_eq_true q1
      walk_at "WK"
      refine ⟨?_, rfl⟩
      show D.py (.bool (decide ((v : Int) ≤ hh))) = _
      simp [q1']
    · have q1' := of_decide_eq_false q1
      refine ⟨?_, rfl⟩
      show D.py (.bool false) = _
      simp [q1']
  refine ⟨fun q0 => ?_, fun q0 => ?_⟩
  · have q0' := of_decide_eq_false q0
    obtain ⟨ch, r, e1, h1, h2, h3⟩ := num_head v
    walk_at "WK"
    refine ⟨l3, ch, atI_nat (by rw [txN_cps, e1]; rfl), ?_⟩
    walk_at "WK"
    have ok1 : PyData.strOk ⟨#[ch]⟩ = true := by
      unfold PyData.strOk
      rw [Array.all_eq_true_iff_forall_mem]
      intro x hx
      have hx' : x = ch := by simpa using hx
      exact decide_eq_true (by omega)
    refine ⟨shp_str ok1, shp_str (by decide +kernel), ?_⟩
    have ne : ¬ ((⟨#[ch]⟩ : Str) = Str.ofString "0") := fun z => by
      have e2 : (⟨#[ch]⟩ : Str).cps.toList = (Str.ofString "0").cps.toList := by rw [z]
      have e3 : [ch] = [48] := e2.trans (by decide +kernel)
      exact q0' (h3 (List.cons.inj e3).1)
    rw [eqv_strD, decide_eq_false ne]
    walk_at "WK"
    refine ⟨fun _ => ?_, fun z => (nomatch z)⟩
    exact rest
  · walk_at "WK"
    refine ⟨fun _ => ?_, fun z => (nomatch z)⟩
    exact rest
end
end Wx

/-! ### part T2 -/
set_option Elab.async false
set_option linter.all false
set_option maxRecDepth 100000
set_option maxHeartbeats 1000000
set_option autoImplicit false
namespace Wx
open PySem L2
theorem shp_sg {l : List Nat} (h : ∀ x ∈ l, x < 1000) : SeqAt.shaped (.str (sg l)) = true := shp_str (sg_ok h)
theorem shp_wd (w : Wd) : SeqAt.shaped (.str w.tx) = true := shp_str (wd_ok w)
theorem eqv_sg (a b : List Nat) : PyData.eqv (.str (sg a)) (.str (sg b)) = decide (a = b) := by
  rw [eqv_strD, decide_eq_decide]
  exact ⟨sg_inj, fun z => by rw [z]⟩
theorem txt_m : Str.ofString "-" = sg [45] := by decide +kernel
theorem txt_p : Str.ofString "p" = sg [112] := by decide +kernel
theorem txt_r : Str.ofString "r" = sg [114] := by decide +kernel
theorem txt_d : Str.ofString "d" = sg [100] := by decide +kernel

section
variable {P : Program} {w : World} {K : PySem.W.Frag} {mg : Str → Option Value} {base : Heap} {f C : Addr} {fd : FuncData}
abbrev sp_is_constant_word (K : PySem.W.Frag) : Sp := SpX (ι := Int) K (fun v => [.py (.str (Wd.c v).tx)]) (fun v _ => okWd (.c v)) fun x n d m => d = .py (.bool true) ∧ m = n
theorem ln_is_constant_word (v : Int) : [D.py (.str (Wd.c v).tx)].length = 1 := rfl
theorem nm_is_constant_word (v : Int) : [D.py (.str (Wd.c v).tx)].all D.nm = true := rfl
theorem sc_is_constant_word : FnScope ["word"] ["word"] (defScope (top 42)) := ⟨rfl, rfl, rfl, by decide +kernel, rfl, by decide +kernel, by decide +kernel⟩
theorem ok_is_constant_word (F : FnP K "is_constant_word" "is_constant_word" (top 42) f fd) (S_is_decimal : Std P w K mg base 1 "is_decimal" ["signs", "low", "high"] (sp_is_decimal K)) (i_GREATEST : GInt mg "GREATEST" (10 ^ 30)) : FnOk P w K mg base CX0 2 f fd ["word"] (sp_is_constant_word K) := by
  refine F.ok sc_is_constant_word (sx_len ln_is_constant_word) (fun cdv A outer s H vs Q E hr h => ?_)
  have nd := sc_is_constant_word.nd
  refine ⟨_, PSs.nox (pss_one (ps_ret (pe_ifExp (pt_cmpR (eqK (K := K) rfl (room64 hr)) (pe_slice (slK (K := K) rfl) (pv 0) po_none (po_some (pe_int))) (pe_str) (nomark _)) (pe_std S_is_decimal hr rfl (pa_cons (pe_slice (slK (K := K) rfl) (pv 0) (po_some (pe_int)) po_none) (pa_cons (pe_int) (pa_cons (pe_gint i_GREATEST rfl) (pa_nil))))) (pe_std S_is_decimal hr rfl (pa_cons (pv 0) (pa_cons (pe_int) (pa_cons (pe_gint i_GREATEST rfl) (pa_nil)))))))), ?_⟩
  refine body_x nm_is_constant_word ?_ vs H Q E h
  clear h hr
  intro c n x hK hp
  (subst hK)
  try clear S_is_decimal i_GREATEST F
  have hx : -(10 ^ 30) ≤ x ∧ x ≤ 10 ^ 30 := hp
  have hw := wd_len (w := .c x) hp
  have l3 : (Wd.c x).tx.length ≤ sizeLine := by unfold Wd.tx; rw [sg_len]; exact Nat.le_trans hw.2 (by rw [sizeLine_eq]; decide)
  walk_at "WK"
  refine ⟨l3, ?_⟩
  by_cases hn : x < 0
  · have e : (Wd.c x).tx.cps.toList = 45 :: TL.numL x.natAbs := by
      show (Wd.c x).sg = _
      rw [wd_c, if_pos hn]
    rw [cut_head _ e, txt_m]
    walk_at "WK"
    refine ⟨fun _ => ?_, fun z => absurd z (by decide)⟩
    walk_at "WK"
    refine ⟨l3, ?_⟩
    rw [cut_tail _ e, ← txN_sg]
    walk_at "WK"
    refine ⟨(x.natAbs, 1, 10 ^ 30), rfl, by show x.natAbs < 10 ^ 31; omega, ?_⟩
    rintro d m ⟨rfl, rfl⟩
    refine ⟨rfl, ?_, rfl⟩
    show D.py (.bool (decide ((1 : Int) ≤ (x.natAbs : Int) ∧ (x.natAbs : Int) ≤ 10 ^ 30))) = _
    rw [decide_eq_true (by omega)]
  · obtain ⟨ch, r, e1, h1, h2, _⟩ := num_head x.natAbs
    have e0 : (Wd.c x).sg = TL.numL x.natAbs := by rw [wd_c, if_neg hn]
    have e : (Wd.c x).tx.cps.toList = ch :: r := by
      show (Wd.c x).sg = _
      rw [e0, e1]
    rw [cut_head _ e, txt_m]
    walk_at "WK"
    refine ⟨shp_sg (by simp; omega), shp_sg (by simp), ?_⟩
    rw [eqv_sg, decide_eq_false (fun z => by have := (List.cons.inj z).1; omega)]
    refine ⟨fun z => (nomatch z), fun _ => ?_⟩
    walk_at "WK"
    refine ⟨(x.natAbs, 0, 10 ^ 30), ?_, by show x.natAbs < 10 ^ 31; omega, ?_⟩
    · show [D.py (.str (sg (Wd.c x).sg)), _, _] = [D.py (.str (txN x.natAbs)), _, _]
      rw [e0, ← txN_sg]
      rfl
    rintro d m ⟨rfl, rfl⟩
    refine ⟨rfl, ?_, rfl⟩
    show D.py (.bool (decide ((0 : Int) ≤ (x.natAbs : Int) ∧ (x.natAbs : Int) ≤ 10 ^ 30))) = _
    rw [decide_eq_true (by omega)]
abbrev sp_is_instruction (K : PySem.W.Frag) : Sp := SpX (ι := Wd) K (fun w => [.py (.str w.tx)]) (fun w _ => okWd w) fun x n d m => d = .py (.bool true) ∧ m = n
theorem ln_is_instruction (w : Wd) : [D.py (.str w.tx)].length = 1 := rfl
theorem nm_is_instruction (w : Wd) : [D.py (.str w.tx)].all D.nm = true := rfl
theorem sc_is_instruction : FnScope ["word"] ["word"] (defScope (top 43)) := ⟨rfl, rfl, rfl, by decide +kernel, rfl, by decide +kernel, by decide +kernel⟩
theorem ok_is_instruction (F : FnP K "is_instruction" "is_instruction" (top 43) f fd) (S_is_decimal : Std P w K mg base 1 "is_decimal" ["signs", "low", "high"] (sp_is_decimal K)) (i_MOST_HIGH : GInt mg "MOST_HIGH" 100) (S_is_constant_word : Std P w K mg base 2 "is_constant_word" ["word"] (sp_is_constant_word K)) : FnOk P w K mg base CX0 3 f fd ["word"] (sp_is_instruction K) := by
  refine F.ok sc_is_instruction (sx_len ln_is_instruction) (fun cdv A outer s H vs Q E hr h => ?_)
  have nd := sc_is_instruction.nd
  refine ⟨_, PSs.nox (pss_cons (ps_if (pt_cmpR (eqK (K := K) rfl (room64 hr)) (pe_slice (slK (K := K) rfl) (pv 0) po_none (po_some (pe_int))) (pe_str) (nomark _)) (pss_one (ps_ret (pe_std S_is_decimal (hr.mono (by decide)) rfl (pa_cons (pe_slice (slK (K := K) rfl) (pv 0) (po_some (pe_int)) po_none) (pa_cons (pe_int) (pa_cons (pe_op op_sub (pe_gint i_MOST_HIGH rfl) (pe_int)) (pa_nil))))))) (pss_nil))
 (pss_cons (ps_if (pt_cmpR (eqK (K := K) rfl (room64 hr)) (pe_slice (slK (K := K) rfl) (pv 0) po_none (po_some (pe_int))) (pe_str) (nomark _)) (pss_one (ps_ret (pe_std S_is_decimal (hr.mono (by decide)) rfl (pa_cons (pe_slice (slK (K := K) rfl) (pv 0) (po_some (pe_int)) po_none) (pa_cons (pe_int) (pa_cons (pe_op op_sub (pe_gint i_MOST_HIGH rfl) (pe_int)) (pa_nil))))))) (pss_nil))
 (pss_one (ps_ret (pe_or (pe_cmpR (eqK (K := K) rfl (room64 hr)) (pv 0) (pe_str) (nomark _)) (pe_one (pe_std S_is_constant_word hr rfl (pa_cons (pv 0) (pa_nil))))))))), ?_⟩
  refine body_x nm_is_instruction ?_ vs H Q E h
  clear h hr
  intro c n x hK hp
  (subst hK)
  try clear S_is_decimal i_MOST_HIGH S_is_constant_word F
  have hw := wd_len hp
  have l3 : x.tx.length ≤ sizeLine := by unfold Wd.tx; rw [sg_len]; exact Nat.le_trans hw.2 (by rw [sizeLine_eq]; decide)
  cases x with
  | p v =>
    have hv : v ≤ 98 := hp
    have e : (Wd.p v).tx.cps.toList = 112 :: TL.numL v := rfl
    walk_at "WK"
    refine ⟨l3, ?_⟩
    rw [cut_head _ e, txt_p]
    walk_at "WK"
    walk_at "WK"
    refine ⟨fun _ => ?_, fun z => absurd z (by decide)⟩
    walk_at "WK"
    refine ⟨l3, ?_⟩
    rw [cut_tail _ e, ← txN_sg]
    walk_at "WK"
    refine ⟨(v, 0, 100 - 2), rfl, by show v < 10 ^ 31; omega, ?_⟩
    rintro d m ⟨rfl, rfl⟩
    refine ⟨rfl, ?_, rfl⟩
    show D.py (.bool (decide ((0 : Int) ≤ (v : Int) ∧ (v : Int) ≤ 100 - 2))) = _
    rw [decide_eq_true (by omega)]
  | r v =>
    have hv : 1 ≤ v ∧ v ≤ 99 := hp
    have e : (Wd.r v).tx.cps.toList = 114 :: TL.numL v := rfl
    walk_at "WK"
    refine ⟨l3, ?_⟩
    rw [cut_head _ e, txt_p]
    walk_at "WK"
    walk_at "WK"
    refine ⟨fun z => absurd z (by decide), fun _ => ?_⟩
    walk_at "WK"
    refine ⟨l3, ?_⟩
    rw [cut_head _ e, txt_r]
    walk_at "WK"
    walk_at "WK"
    refine ⟨fun _ => ?_, fun z => absurd z (by decide)⟩
    walk_at "WK"
    refine ⟨l3, ?_⟩
    rw [cut_tail _ e, ← txN_sg]
    walk_at "WK"
    refine ⟨(v, 1, 100 - 1), rfl, by show v < 10 ^ 31; omega, ?_⟩
    rintro d m ⟨rfl, rfl⟩
    refine ⟨rfl, ?_, rfl⟩
    show D.py (.bool (decide ((1 : Int) ≤ (v : Int) ∧ (v : Int) ≤ 100 - 1))) = _
    rw [decide_eq_true (by omega)]
  | d =>
    have e : Wd.d.tx.cps.toList = 100 :: [] := rfl
    walk_at "WK"
    refine ⟨l3, ?_⟩
    rw [cut_head _ e, txt_p]
    walk_at "WK"
    walk_at "WK"
    refine ⟨fun z => absurd z (by decide), fun _ => ?_⟩
    walk_at "WK"
    refine ⟨l3, ?_⟩
    rw [cut_head _ e, txt_r]
    walk_at "WK"
    walk_at "WK"
    refine ⟨fun z => absurd z (by decide), fun _ => ?_⟩
    walk_at "WK"
    refine ⟨fun z => absurd z (by decide), fun _ => ?_⟩
    exact ⟨rfl, rfl⟩
  | c v =>
    have hv : -(10 ^ 30) ≤ v ∧ v ≤ 10 ^ 30 := hp
    obtain ⟨ch, r, e, h1, h2⟩ : ∃ ch r, (Wd.c v).sg = ch :: r ∧ 45 ≤ ch ∧ ch ≤ 57 := by
      rw [wd_c]
      split
      · exact ⟨45, _, rfl, by decide, by decide⟩
      · obtain ⟨ch, r, e1, h1, h2, _⟩ := num_head v.natAbs
        exact ⟨ch, r, e1, by omega, h2⟩
    have e' : (Wd.c v).tx.cps.toList = ch :: r := e
    walk_at "WK"
    refine ⟨l3, ?_⟩
    rw [cut_head _ e', txt_p]
    walk_at "WK"
    refine ⟨shp_sg (by simp; omega), shp_sg (by simp), ?_⟩
    rw [eqv_sg, decide_eq_false (fun z => by have := (List.cons.inj z).1; omega)]
    walk_at "WK"
    refine ⟨fun z => (nomatch z), fun _ => ?_⟩
    walk_at "WK"
    refine ⟨l3, ?_⟩
    rw [cut_head _ e', txt_r]
    walk_at "WK"
    refine ⟨shp_sg (by simp; omega), shp_sg (by simp), ?_⟩
    rw [eqv_sg, decide_eq_false (fun z => by have := (List.cons.inj z).1; omega)]
    walk_at "WK"
    refine ⟨fun z => (nomatch z), fun _ => ?_⟩
    walk_at "WK"
    refine ⟨shp_wd (.c v), shp_str (by decide +kernel), ?_⟩
    rw [txt_d, show (Wd.c v).tx = sg (Wd.c v).sg from rfl, eqv_sg, decide_eq_false (fun z => by rw [e] at z; have := (List.cons.inj z).1; omega)]
    walk_at "WK"
    refine ⟨fun _ => ?_, fun z => (nomatch z)⟩
    walk_at "WK"
    refine ⟨v, rfl, hp, ?_⟩
    rintro d m ⟨rfl, rfl⟩
    exact ⟨rfl, rfl, rfl⟩
end
end Wx

/-! ### part T4 -/
set_option Elab.async false
set_option linter.all false
set_option maxRecDepth 100000
set_option maxHeartbeats 1000000
set_option autoImplicit false
/-! enumerate of a list. -/
namespace Wx
open PySem L2
section
variable {c : Cy} {sl : List Slo} {nn : Nat} {ta : TA} {K : PySem.W.Frag} {m : Bool} {Θ : List D → Nat → Prop}
theorem Da.lst_st {S : Addr → Prop} {H : Hp} {v : V} {M : Addr → Prop} {ds : List PyData} (hM : ∀ a, M a → S a) (x : Da K S H v (.list ds)) : ∃ a xs, v = .ref a ∧ (∀ H', Kept M H H' → SqL K H' a xs) ∧ DaL K S H xs ds := by
  cases x with
  | lst na r t => exact ⟨_, _, rfl, fun H' kk => .inl ((kk.mono hM).rd na r), t⟩
  | lstK r t => exact ⟨_, _, rfl, fun H' _ => r H', t⟩
theorem wi_enumL (hK : K = c.K) (h : Wa c ta ⟨sl, nn⟩ fun ds n => One ds fun d => ∃ xs, d = .py (.list xs) ∧ Θ (enumD xs) n) : Wi c m (iEnum K ta) ⟨sl, nn⟩ Θ := ⟨fun σ A H o R k => by
  subst hK
  refine h.run σ A H o _ fun vs H1 ds n p e1 g1 x => ?_
  obtain ⟨v, d, rfl, x1, xs, rfl, q⟩ := one_of p x
  obtain ⟨a, us, rfl, s1, t1⟩ := Da.lst_st (M := Mm c m σ ⟨sl, nn⟩) (fun a z => Mm.sub o a z) x1
  have lu := t1.len
  refine ⟨a, us, rfl, s1 H1 Kept.refl, k _ H1 _ n q e1 g1 ⟨fun H' i kk hi => ?_, fun H' i kk hi => ?_, fun H' i z H'' kk hi y => ?_⟩⟩
  · rw [enumD_len] at hi
    exact ⟨us, us[i]'(by omega), s1 H' kk, List.getElem?_eq_getElem _⟩
  · rw [enumD_len] at hi
    exact ⟨us, s1 H' kk, by omega⟩
  · rw [enumD_len] at hi
    obtain ⟨T, x', rfl, hT, rfl, z1⟩ := y
    obtain ⟨p1, h1, d1⟩ := t1.got (z1 us (s1 H' kk))
    refine ⟨.py (.tuple [.int (i : Int), p1]), by rw [enumD_get, h1]; rfl, .inr ⟨T, _, hT, rfl⟩, fun B w w2 _ => ?_⟩
    have kT : Kept B H' (upd H' T (.tup [.int (i : Nat), x'])) := fun b u nb q => by rw [upd_ne (ne_of_none q hT)]; exact q
    have e1 : Da c.K B H' x' p1 := Da.to (kk.mono fun a z => Mm.sub o a z) w d1
    exact .tup (fun z => w2 T z hT) (.inl upd_same) (.cons (.int _) (.cons (e1.keep kT) .nil))⟩
theorem enumLK {X : Cx} {e : Expr} {p pos tpos : Pos} {elts : List Expr} {kk : Nat} (hK : X.K = K) (hg : Gl X "enumerate") (hm : X.mg "enumerate" = none) (ha : PA X [e] ta) (hs : starEach [e] X.env = [(false, eval e X.env)] := by rfl) :
    PI X (.Tuple elts kk tpos) (.Call (.Name "enumerate" p) [e] [] pos) (iEnum K ta) := hK ▸ pi_enum hg hm ha hs
end
section
variable {c : Cy} {d : D} {e : En} {Φ : En → Prop} {js : List Nat}
theorem wg_quad {K : PySem.W.Frag} {t1 t2 t3 t4 : TG} (hK : K = c.K) (h : ∃ p q r s, d = .py (.tuple [p, q, r, s]) ∧ Wg c t1 js (.py p) e fun e1 => Wg c t2 js (.py q) e1 fun e2 => Wg c t3 js (.py r) e2 fun e3 => Wg c t4 js (.py s) e3 Φ) : Wg c (gTup K 4 (gCons t1 (gCons t2 (gCons t3 (gCons t4 gNil))))) js d e Φ := ⟨fun σ A H v o x Q k => by
  subst hK
  obtain ⟨p, q, r, s, rfl, h⟩ := h
  obtain ⟨a, xs, rfl, hs, t⟩ := Da.tuple_at x
  cases t with
  | cons y1 t =>
    cases t with
    | cons y2 t =>
      cases t with
      | cons y3 t =>
        cases t with
        | cons y4 t =>
          cases t
          refine ⟨a, _, rfl, hs, rfl, _, _, rfl, h.run σ A H _ o y1 _ fun σ1 e1 h1 o1 w1 u1 => ⟨_, _, rfl, h1.run σ1 A H _ o1 y2 _ fun σ2 e2 h2 o2 w2 u2 => ⟨_, _, rfl, h2.run σ2 A H _ o2 y3 _ fun σ3 e3 h3 o3 w3 u3 => ⟨_, _, rfl, h3.run σ3 A H _ o3 y4 _ fun σ4 e4 h4 o4 w4 u4 => ⟨rfl, k σ4 e4 h4 o4 (((w1.trans w2).trans w3).trans w4) fun b z => u1 b (u2 b (u3 b (u4 b z)))⟩⟩⟩⟩⟩⟩
end
section
variable {c : Cy} {d : D} {e : En} {Φ : En → Prop} {js : List Nat}
theorem wg_trip {K : PySem.W.Frag} {t1 t2 t3 : TG} (hK : K = c.K) (h : ∃ p q r, d = .py (.tuple [p, q, r]) ∧ Wg c t1 js (.py p) e fun e1 => Wg c t2 js (.py q) e1 fun e2 => Wg c t3 js (.py r) e2 Φ) : Wg c (gTup K 3 (gCons t1 (gCons t2 (gCons t3 gNil)))) js d e Φ := ⟨fun σ A H v o x Q k => by
  subst hK
  obtain ⟨p, q, r, rfl, h⟩ := h
  obtain ⟨a, xs, rfl, hs, t⟩ := Da.tuple_at x
  cases t with
  | cons y1 t =>
    cases t with
    | cons y2 t =>
      cases t with
      | cons y3 t =>
        cases t
        refine ⟨a, _, rfl, hs, rfl, _, _, rfl, h.run σ A H _ o y1 _ fun σ1 e1 h1 o1 w1 u1 => ⟨_, _, rfl, h1.run σ1 A H _ o1 y2 _ fun σ2 e2 h2 o2 w2 u2 => ⟨_, _, rfl, h2.run σ2 A H _ o2 y3 _ fun σ3 e3 h3 o3 w3 u3 => ⟨rfl, k σ3 e3 h3 o3 ((w1.trans w2).trans w3) fun b z => u1 b (u2 b (u3 b z))⟩⟩⟩⟩⟩
end
/-- a statement that is not reached; an expression that is not reached -/
def tENever : TE := fun _ _ _ => False
theorem pe_never {X : Cx} {e : Expr} : PE X e tENever := ⟨fun _ _ _ _ _ _ h => h.elim⟩
end Wx

/-! ### part U0 -/
set_option Elab.async false
set_option linter.all false
set_option maxRecDepth 100000
set_option maxHeartbeats 1000000
set_option autoImplicit false
/-! Programs as trees; their words. -/
namespace Wx
open PySem L2
/-- a sequence of nodes -/
inductive Ns where
  | nil
  | dow (w : Wd) (r : Ns)
  | rep (n : Nat) (b r : Ns)
  | cho (a b r : Ns)
deriving DecidableEq
inductive Tk where
  | w (w : Wd)
  | op
  | cl (n : Nat)
  | bo
  | bi
  | bc
deriving DecidableEq
def Tk.sg : Tk → List Nat
  | .w v => v.sg
  | .op => [40]
  | .cl n => 41 :: TL.numL n
  | .bo => [123]
  | .bi => [124]
  | .bc => [125]
def Tk.tx (t : Tk) : Str := Wx.sg t.sg
def okTk : Tk → Prop
  | .w w => okWd w
  | .cl n => 2 ≤ n ∧ n ≤ 10 ^ 30
  | _ => True
def toks : Ns → List Tk
  | .nil => []
  | .dow w r => .w w :: toks r
  | .rep n b r => .op :: (toks b ++ .cl n :: toks r)
  | .cho a b r => .bo :: (toks a ++ .bi :: (toks b ++ .bc :: toks r))
/-- the number of words -/
def tkN : Ns → Nat
  | .nil => 0
  | .dow _ r => 1 + tkN r
  | .rep _ b r => 2 + tkN b + tkN r
  | .cho a b r => 3 + tkN a + tkN b + tkN r
theorem toks_len : ∀ ns, (toks ns).length = tkN ns
  | .nil => rfl
  | .dow w r => by show (toks r).length + 1 = _; rw [toks_len r]; show _ = 1 + tkN r; omega
  | .rep n b r => by
    show (toks b ++ .cl n :: toks r).length + 1 = 2 + tkN b + tkN r
    rw [List.length_append, List.length_cons, toks_len b, toks_len r]; omega
  | .cho a b r => by
    show (toks a ++ .bi :: (toks b ++ .bc :: toks r)).length + 1 = 3 + tkN a + tkN b + tkN r
    rw [List.length_append, List.length_cons, List.length_append, List.length_cons, toks_len a, toks_len b, toks_len r]; omega
theorem wd_cons0 {w : Wd} : ∃ c r, w.sg = c :: r ∧ 45 ≤ c ∧ c ≤ 114 := by
  cases q : w.sg with
  | nil =>
    cases w with
    | d => cases q
    | p n => cases q
    | r n => cases q
    | c v =>
      rw [wd_c] at q
      split at q
      · cases q
      · exact absurd q (TL.numL_ne _)
  | cons c r => exact ⟨c, r, rfl, (wd_sign (w := w) (x := c) (by rw [q]; exact List.mem_cons_self)).1, (wd_sign (w := w) (x := c) (by rw [q]; exact List.mem_cons_self)).2⟩
theorem tk_sign {t : Tk} {x : Nat} (h : x ∈ t.sg) : 40 ≤ x ∧ x ≤ 125 := by
  cases t with
  | w w => have := wd_sign (w := w) (x := x) h; omega
  | cl n =>
    rcases List.mem_cons.mp h with h | h
    · omega
    · have := num_sign h; omega
  | op => have := List.mem_singleton.mp (show x ∈ [40] from h); omega
  | bo => have := List.mem_singleton.mp (show x ∈ [123] from h); omega
  | bi => have := List.mem_singleton.mp (show x ∈ [124] from h); omega
  | bc => have := List.mem_singleton.mp (show x ∈ [125] from h); omega
/-- the first sign tells the kind -/
theorem tk_cons (t : Tk) : ∃ c r, t.sg = c :: r ∧ match t with
    | .w _ => 45 ≤ c ∧ c ≤ 114
    | .op => c = 40 ∧ r = []
    | .cl n => c = 41 ∧ r = TL.numL n
    | .bo => c = 123 ∧ r = []
    | .bi => c = 124 ∧ r = []
    | .bc => c = 125 ∧ r = [] := by
  cases t with
  | w w => exact wd_cons0
  | cl n => exact ⟨41, _, rfl, rfl, rfl⟩
  | op => exact ⟨40, [], rfl, rfl, rfl⟩
  | bo => exact ⟨123, [], rfl, rfl, rfl⟩
  | bi => exact ⟨124, [], rfl, rfl, rfl⟩
  | bc => exact ⟨125, [], rfl, rfl, rfl⟩
theorem tk_len {t : Tk} (h : okTk t) : 1 ≤ t.sg.length ∧ t.sg.length ≤ 33 := by
  cases t with
  | w w => exact wd_len h
  | cl n =>
    have h' : 2 ≤ n ∧ n ≤ 10 ^ 30 := h
    have b : n < 10 ^ 31 := by omega
    have := TL.numL_len (k := 31) (by decide) b
    show 1 ≤ _ + 1 ∧ _ + 1 ≤ 33
    omega
  | op => exact ⟨Nat.le_refl _, by show 1 ≤ 33; decide⟩
  | bo => exact ⟨Nat.le_refl _, by show 1 ≤ 33; decide⟩
  | bi => exact ⟨Nat.le_refl _, by show 1 ≤ 33; decide⟩
  | bc => exact ⟨Nat.le_refl _, by show 1 ≤ 33; decide⟩
theorem tk_ok (t : Tk) : PyData.strOk t.tx = true := sg_ok fun x hx => by have := tk_sign hx; omega
theorem tk_tx_eq (t : Tk) (l : List Nat) : decide (t.tx = sg l) = decide (t.sg = l) := by
  rw [decide_eq_decide]
  exact ⟨fun h => sg_inj h, fun h => by unfold Tk.tx; rw [h]⟩
/-! ## what a program text asks of a tree -/
def dpN : Ns → Nat
  | .nil => 0
  | .dow _ r => dpN r
  | .rep _ b r => max (1 + dpN b) (dpN r)
  | .cho a b r => max (1 + max (dpN a) (dpN b)) (dpN r)
def plainN : Ns → Bool
  | .nil => true
  | .dow _ r => plainN r
  | .rep _ b r => plainN b && plainN r
  | .cho _ _ _ => false
/-! ## measures -/
def mW : Wd → Int × Int × Int
  | .d => (1, 0, -1)
  | .p n => ((n : Int) + 1, 1, 1)
  | .r n => ((n : Int) + 1, 0, 0)
  | .c _ => (0, 1, 1)
def mxI (i j : Int) : Int := if j > i then j else i
def joinM (a b : Int × Int × Int) : Int × Int × Int := (mxI a.1 (b.1 - a.2.2), mxI a.2.1 (a.2.2 + b.2.1), a.2.2 + b.2.2)
def repM (a : Int × Int × Int) (n : Int) : Int × Int × Int := (a.1 + (n - 1) * mxI 0 (-a.2.2), a.2.1 + (n - 1) * mxI 0 a.2.2, n * a.2.2)
def choM (a b : Int × Int × Int) : Int × Int × Int := (mxI a.1 b.1, mxI a.2.1 b.2.1, a.2.2)
def mA (m : Int × Int × Int) : Ns → Int × Int × Int
  | .nil => m
  | .dow w r => mA (joinM m (mW w)) r
  | .rep n b r => mA (joinM m (repM (mA (0, 0, 0) b) n)) r
  | .cho a b r => mA (joinM m (choM (mA (0, 0, 0) a) (mA (0, 0, 0) b))) r
def mN (ns : Ns) : Int × Int × Int := mA (0, 0, 0) ns
/-- the growth alone -/
def gN : Ns → Int
  | .nil => 0
  | .dow w r => (mW w).2.2 + gN r
  | .rep n b r => (n : Int) * gN b + gN r
  | .cho a _ r => gN a + gN r
theorem mA_g : ∀ (ns : Ns) (m : Int × Int × Int), (mA m ns).2.2 = m.2.2 + gN ns
  | .nil, m => by show m.2.2 = m.2.2 + 0; omega
  | .dow w r, m => by
    show (mA (joinM m (mW w)) r).2.2 = _
    rw [mA_g r]
    show m.2.2 + (mW w).2.2 + gN r = m.2.2 + ((mW w).2.2 + gN r)
    omega
  | .rep n b r, m => by
    show (mA (joinM m (repM (mA (0, 0, 0) b) n)) r).2.2 = _
    rw [mA_g r]
    show m.2.2 + n * (mA (0, 0, 0) b).2.2 + gN r = m.2.2 + (n * gN b + gN r)
    rw [mA_g b]
    show m.2.2 + n * (0 + gN b) + gN r = _
    rw [Int.zero_add]
    omega
  | .cho a b r, m => by
    show (mA (joinM m (choM (mA (0, 0, 0) a) (mA (0, 0, 0) b))) r).2.2 = _
    rw [mA_g r]
    show m.2.2 + (mA (0, 0, 0) a).2.2 + gN r = m.2.2 + (gN a + gN r)
    rw [mA_g a]
    show m.2.2 + (0 + gN a) + gN r = _
    omega
/-- a program's tree: what its text may be -/
def wfN : Ns → Prop
  | .nil => True
  | .dow w r => okWd w ∧ wfN r
  | .rep n b r => (2 ≤ n ∧ n ≤ 10 ^ 30 ∧ b ≠ .nil ∧ (mN b).1 + (mN b).2.1 ≤ 100 ∧ (repM (mN b) n).1 + (repM (mN b) n).2.1 ≤ 100) ∧ wfN b ∧ wfN r
  | .cho a b r => (gN a = gN b ∧ (mN a).1 + (mN a).2.1 ≤ 100 ∧ (mN b).1 + (mN b).2.1 ≤ 100) ∧ wfN a ∧ wfN b ∧ wfN r
theorem wf_toks : ∀ {ns : Ns}, wfN ns → ∀ t ∈ toks ns, okTk t
  | .nil, _, t, h => by cases h
  | .dow w r, h, t, ht => by
    rcases List.mem_cons.mp ht with rfl | ht
    · exact h.1
    · exact wf_toks h.2 t ht
  | .rep n b r, h, t, ht => by
    rcases List.mem_cons.mp ht with rfl | ht
    · trivial
    · rcases List.mem_append.mp ht with ht | ht
      · exact wf_toks h.2.1 t ht
      · rcases List.mem_cons.mp ht with rfl | ht
        · exact ⟨h.1.1, h.1.2.1⟩
        · exact wf_toks h.2.2 t ht
  | .cho a b r, h, t, ht => by
    rcases List.mem_cons.mp ht with rfl | ht
    · trivial
    · rcases List.mem_append.mp ht with ht | ht
      · exact wf_toks h.2.1 t ht
      · rcases List.mem_cons.mp ht with rfl | ht
        · trivial
        · rcases List.mem_append.mp ht with ht | ht
          · exact wf_toks h.2.2.1 t ht
          · rcases List.mem_cons.mp ht with rfl | ht
            · trivial
            · exact wf_toks h.2.2.2 t ht
end Wx

/-! ### part U1 -/
set_option Elab.async false
set_option linter.all false
set_option maxRecDepth 100000
set_option maxHeartbeats 1000000
set_option autoImplicit false
namespace Wx
open PySem L2
/-! ## split -/
def rSplit1 : V → List V → Hp → VK → Prop := fun x xs H Q => ∃ a b, x = .str a ∧ xs = [.str b] ∧ (b.length == 0) = false ∧ a.length + 2 ≤ sizeLine ∧ rNewStrs (Txt.split a b) H Q
theorem pe_splitS {X : Cx} {o e : Expr} {to te : TE} {apos pos : Pos} (ho : PE X o to) (he : PE X e te) (hs : starEach [e] X.env = [(false, eval e X.env)] := by rfl) (hbase : attributeBase o "split" X.env (eval o X.env) = eval o X.env := by rfl) (hline : (apos.endLine == pos.line) = true := by rfl) :
    PE X (.Call (.Attribute o "split" apos) [e] [] pos) (tM1 rSplit1 to te) := pe_split ho he hs hbase hline
theorem da_strs2 {K : PySem.W.Frag} {S : Addr → Prop} {H : Hp} : ∀ ys : List Str, DaL K S H (ys.map V.str) (ys.map PyData.str)
  | [] => .nil
  | y :: ys => .cons (.str y) (da_strs2 ys)
theorem wn_split {c : Cy} {sl : List Slo} {nn : Nat} {to te : TE} {Ψ : Ow → Nat → Prop} (h : Wp c to ⟨sl, nn⟩ fun d n => ∃ a, d = .py (.str a) ∧ Wp c te ⟨sl, n⟩ fun d2 m => ∃ b, d2 = .py (.str b) ∧ (b.length == 0) = false ∧ a.length + 2 ≤ sizeLine ∧ Ψ (.lst ((Txt.split a b).map PyData.str)) m) : Wn c (tM1 rSplit1 to te) ⟨sl, nn⟩ Ψ := ⟨fun σ A H o Q k => by
  refine h.run σ A H o _ fun v H1 d n p e1 g1 x => ?_
  obtain ⟨a, rfl, p⟩ := p
  cases Da.str_eq x
  refine ⟨⟨a, rfl⟩, p.run σ A H1 (o.keep e1 g1) _ fun w H2 d2 m q e2 g2 x2 => ?_⟩
  obtain ⟨b, rfl, hb, hz, q⟩ := q
  cases Da.str_eq x2
  refine ⟨a, b, rfl, rfl, hb, hz, fun p hp => ?_⟩
  exact k p _ _ m q ((e1.trans e2).trans (Ek.new hp)) (g2.new hp) (fresh_of (e1.trans e2) g2 hp) ⟨_, upd_same, da_strs2 _⟩⟩
/-! ## the text of words -/
def joinT (ts : List Tk) : Str := Txt.join (Str.ofString " ") (ts.map Tk.tx)
def ttx (ts : List Tk) : List PyData := ts.map fun t => .str t.tx
theorem ttx_len (ts : List Tk) : (ttx ts).length = ts.length := List.length_map _
theorem ttx_at {ts : List Tk} {i : Nat} {p : PyData} (h : (ttx ts)[i]? = some p) : ∃ t, ts[i]? = some t ∧ t ∈ ts ∧ p = .str t.tx := by
  unfold ttx at h
  rw [List.getElem?_map] at h
  cases q : ts[i]? with
  | none => rw [q] at h; cases h
  | some t => rw [q] at h; cases h; exact ⟨t, rfl, List.mem_of_getElem? q, rfl⟩
theorem ttx_item {ts : List Tk} {i : Nat} {d : D} (h : ((ttx ts).map D.py)[i]? = some d) : ∃ t, ts[i]? = some t ∧ t ∈ ts ∧ d = .py (.str t.tx) := by
  rw [List.getElem?_map] at h
  cases q : (ttx ts)[i]? with
  | none => rw [q] at h; cases h
  | some p =>
    obtain ⟨t, a, b, rfl⟩ := ttx_at q
    rw [q] at h
    cases h
    exact ⟨t, a, b, rfl⟩
theorem ttx_get {ts : List Tk} {i : Nat} {t : Tk} (h : ts[i]? = some t) : atI (ttx ts) (i : Int) = some (.str t.tx) := atI_nat (by unfold ttx; rw [List.getElem?_map, h] <;> rfl)
theorem split_joinT {ts : List Tk} (h : ts ≠ []) : Txt.split (joinT ts) (Str.ofString " ") = ts.map Tk.tx := by
  refine TL.split_join (s := 32) (S := []) (by decide +kernel) (by decide +kernel) (fun z => h (List.map_eq_nil_iff.mp z)) fun p hp => ?_
  obtain ⟨w, _, rfl⟩ := List.mem_map.mp hp
  intro hm
  have := tk_sign (t := w) (x := 32) hm
  omega
theorem join_sum (y : Str) : ∀ ps : List Str, (Str.join y ps).length ≤ (ps.map (·.length)).sum + ps.length * y.length
  | [] => Nat.zero_le _
  | [p] => by
    show p.length ≤ p.length + 0 + 1 * y.length
    omega
  | p :: q :: r => by
    have ih := join_sum y (q :: r)
    show (p ++ y ++ Str.join y (q :: r)).length ≤ _
    rw [PySem.Str.length_append, PySem.Str.length_append]
    simp only [List.map_cons, List.sum_cons, List.length_cons] at ih ⊢
    have : (r.length + 1 + 1) * y.length = (r.length + 1) * y.length + y.length := by rw [Nat.add_mul, Nat.one_mul]
    omega
theorem sumT {ts : List Tk} (h : ∀ t ∈ ts, okTk t) : ((ts.map Tk.tx).map (·.length)).sum ≤ 33 * ts.length := by
  induction ts with
  | nil => exact Nat.le_refl _
  | cons w ts ih =>
    have h1 := (tk_len (h w List.mem_cons_self)).2
    have h2 := ih fun x hx => h x (List.mem_cons_of_mem _ hx)
    simp only [List.map_cons, List.sum_cons, List.length_cons]
    have : w.tx.length = w.sg.length := sg_len _
    omega
theorem joinT_len {ts : List Tk} (h : ∀ t ∈ ts, okTk t) : (joinT ts).length ≤ 34 * ts.length := by
  have h1 := join_sum (Str.ofString " ") (ts.map Tk.tx)
  have h2 := sumT h
  have e : joinT ts = Str.join (Str.ofString " ") (ts.map Tk.tx) := TL.join_eq _ _
  rw [e]
  rw [show (Str.ofString " ").length = 1 by decide +kernel, List.length_map] at h1
  omega
theorem joinT_nil : joinT [] = Str.ofString "" := by decide +kernel
theorem joinT_ne {ts : List Tk} (h : ts ≠ []) : ¬ joinT ts = Str.ofString "" := fun e => by
  have h1 := split_joinT h
  rw [e] at h1
  cases ts with
  | nil => exact h rfl
  | cons w ts =>
    have h2 : Txt.split (Str.ofString "") (Str.ofString " ") = [Str.ofString ""] := by decide +kernel
    rw [h2, List.map_cons] at h1
    have h3 := (List.cons.inj h1).1
    have h4 : (Str.ofString "").cps.toList = w.sg := by rw [h3]; rfl
    obtain ⟨c, r, ec, _⟩ := tk_cons w
    rw [ec, show (Str.ofString "").cps.toList = [] by decide +kernel] at h4
    cases h4
theorem joinT_ok (ts : List Tk) : PyData.strOk (joinT ts) = true := by
  unfold PyData.strOk
  rw [Array.all_eq_true_iff_forall_mem]
  have e : joinT ts = Str.join (Str.ofString " ") (ts.map Tk.tx) := TL.join_eq _ _
  rw [e]
  have w : ∀ (l : List Tk) (ch : Nat), ch ∈ (Str.join (Str.ofString " ") (l.map Tk.tx)).cps.toList → ch < 1000 := fun l => by
    induction l with
    | nil => intro ch h; cases h
    | cons a l ih =>
      intro ch h
      cases l with
      | nil =>
        have := tk_sign (t := a) (x := ch) h
        omega
      | cons b l =>
        have h' : ch ∈ (a.tx ++ Str.ofString " " ++ Str.join (Str.ofString " ") ((b :: l).map Tk.tx)).cps.toList := h
        have app : ∀ x y : Str, (x ++ y).cps.toList = x.cps.toList ++ y.cps.toList := fun x y => by
          show (x.cps ++ y.cps).toList = _
          simp
        rw [app, app] at h'
        rcases List.mem_append.mp h' with h' | h'
        · rcases List.mem_append.mp h' with h' | h'
          · have := tk_sign (t := a) (x := ch) h'
            omega
          · have : ch = 32 := by
              have h2 : (Str.ofString " ").cps.toList = [32] := by decide +kernel
              rw [h2] at h'
              exact List.mem_singleton.mp h'
            omega
        · exact ih ch h'
  intro ch hc
  have := w ts ch (by simpa using hc)
  exact decide_eq_true (by omega)
section
variable {P : Program} {w : World} {K : PySem.W.Frag} {mg : Str → Option Value} {base : Heap} {f C : Addr} {fd : FuncData}
abbrev sp_words_of (K : PySem.W.Frag) : Sp := SpX (ι := List Tk) K (fun ts => [.py (.str (joinT ts))]) (fun ts _ => ts.length ≤ 1000 ∧ ∀ t ∈ ts, okTk t) fun ts n d m => d = .py (.list (ttx ts)) ∧ m = n
theorem ln_words_of (ts : List Tk) : [D.py (.str (joinT ts))].length = 1 := rfl
theorem nm_words_of (ts : List Tk) : [D.py (.str (joinT ts))].all D.nm = true := rfl
theorem sc_words_of : FnScope ["text"] ["text"] (defScope (top 45)) := ⟨rfl, rfl, rfl, by decide +kernel, rfl, by decide +kernel, by decide +kernel⟩
theorem ok_words_of (F : FnP K "words_of" "words_of" (top 45) f fd)  : FnOk P w K mg base CX0 1 f fd ["text"] (sp_words_of K) := by
  refine F.ok sc_words_of (sx_len ln_words_of) (fun cdv A outer s H vs Q E hr h => ?_)
  have nd := sc_words_of.nd
  refine ⟨_, PSs.nox (pss_one (ps_ret (pe_ifExp (pt_cmpR (neK (K := K) rfl (room64 hr)) (pv 0) (pe_str) (nomark _)) (pe_splitS (pv 0) (pe_str)) (pe_lst (pa_nil))))), ?_⟩
  refine body_x nm_words_of ?_ vs H Q E h
  clear h hr
  intro c n x hK hp
  (subst hK)
  try clear F
  obtain ⟨h1, h2⟩ : x.length ≤ 1000 ∧ ∀ t ∈ x, okTk t := hp
  walk_at "WK"
  refine ⟨shp_str (joinT_ok x), shp_str (by decide +kernel), ?_⟩
  rw [eqv_strD]
  by_cases e : x = []
  · subst e
    rw [decide_eq_true joinT_nil]
    refine ⟨fun z => (nomatch z), fun _ => ?_⟩
    walk_at "WK"
    first | exact ⟨rfl, rfl⟩ | exact rfl
  · rw [decide_eq_false (joinT_ne e)]
    refine ⟨fun _ => ?_, fun z => (nomatch z)⟩
    refine wp_new (wn_split ?_)
    walk_at "WK"
    refine ⟨_, rfl, ?_⟩
    walk_at "WK"
    have hl := joinT_len h2
    refine ⟨_, rfl, by decide +kernel, Nat.le_trans (show _ ≤ 34002 by omega) (by rw [sizeLine_eq]; decide), ?_⟩
    rw [split_joinT e, List.map_map]
    exact ⟨rfl, rfl⟩
theorem at0 {l : List Nat} {c : Nat} {r : List Nat} (h : l = c :: r) : atI l 0 = some c := by
  subst h
  exact atI_nat (show (c :: r)[0]? = some c from rfl)
abbrev t3 (m : Int × Int × Int) : PyData := .tuple [.int m.1, .int m.2.1, .int m.2.2]
abbrev sp_measure_of (K : PySem.W.Frag) : Sp := SpX (ι := Wd) K (fun w => [.py (.str w.tx)]) (fun w _ => okWd w) fun w n d m => d = .py (t3 (mW w)) ∧ m = n
theorem ln_measure_of (w : Wd) : [D.py (.str w.tx)].length = 1 := rfl
theorem nm_measure_of (w : Wd) : [D.py (.str w.tx)].all D.nm = true := rfl
theorem sc_measure_of : FnScope ["word"] ["word"] (defScope (top 44)) := ⟨rfl, rfl, rfl, by decide +kernel, rfl, by decide +kernel, by decide +kernel⟩
theorem ok_measure_of (F : FnP K "measure_of" "measure_of" (top 44) f fd) (g_int : mg "int" = none) : FnOk P w K mg base CX0 1 f fd ["word"] (sp_measure_of K) := by
  refine F.ok sc_measure_of (sx_len ln_measure_of) (fun cdv A outer s H vs Q E hr h => ?_)
  have nd := sc_measure_of.nd
  refine ⟨_, PSs.nox (pss_cons (ps_if (pt_cmpR (eqK (K := K) rfl (room64 hr)) (pe_ix (ixK (K := K) rfl) (pv 0) (pe_int) (fun _ _ => rfl)) (pe_str) (nomark _)) (pss_one (ps_ret (pe_tup (pa_cons (pe_op (addK (K := K) rfl) (pe_callTy callINTS rfl g_int bt_int (pa_cons (pe_slice (slK (K := K) rfl) (pv 0) (po_some (pe_int)) po_none) (pa_nil))) (pe_int)) (pa_cons (pe_int) (pa_cons (pe_int) (pa_nil))))))) (pss_nil))
 (pss_cons (ps_if (pt_cmpR (eqK (K := K) rfl (room64 hr)) (pe_ix (ixK (K := K) rfl) (pv 0) (pe_int) (fun _ _ => rfl)) (pe_str) (nomark _)) (pss_one (ps_ret (pe_tup (pa_cons (pe_op (addK (K := K) rfl) (pe_callTy callINTS rfl g_int bt_int (pa_cons (pe_slice (slK (K := K) rfl) (pv 0) (po_some (pe_int)) po_none) (pa_nil))) (pe_int)) (pa_cons (pe_int) (pa_cons (pe_int) (pa_nil))))))) (pss_nil))
 (pss_one (ps_ret (pe_ifExp (pt_cmpR (eqK (K := K) rfl (room64 hr)) (pv 0) (pe_str) (nomark _)) (pe_tup (pa_cons (pe_int) (pa_cons (pe_int) (pa_cons (pe_un un_neg (pe_int)) (pa_nil))))) (pe_tup (pa_cons (pe_int) (pa_cons (pe_int) (pa_cons (pe_int) (pa_nil)))))))))), ?_⟩
  refine body_x nm_measure_of ?_ vs H Q E h
  clear h hr
  intro c n x hK hp
  (subst hK)
  try clear g_int F
  have hw := wd_len hp
  have l3 : x.tx.length ≤ sizeLine := by unfold Wd.tx; rw [sg_len]; exact Nat.le_trans hw.2 (by rw [sizeLine_eq]; decide)
  cases x with
  | p v =>
    have hv : v ≤ 98 := hp
    have e : (Wd.p v).tx.cps.toList = 112 :: TL.numL v := rfl
    walk_at "WK"
    refine ⟨l3, 112, at0 rfl, ?_⟩
    walk_at "WK"
    refine ⟨fun _ => ?_, fun z => absurd z (by decide)⟩
    walk_at "WK"
    refine ⟨l3, ?_⟩
    rw [cut_tail _ e, ← txN_sg]
    walk_at "WK"
    refine cw_intS (one_mk ⟨_, _, rfl, txN_int (show v < 10 ^ 200 by omega), Nat.le_trans (txN_le (k := 31) (by decide) (show v < 10 ^ 31 by omega)) (by decide), ?_⟩)
    walk_at "WK"
    first | exact ⟨rfl, rfl⟩ | exact rfl
  | r v =>
    have hv : 1 ≤ v ∧ v ≤ 99 := hp
    have e : (Wd.r v).tx.cps.toList = 114 :: TL.numL v := rfl
    walk_at "WK"
    refine ⟨l3, 114, at0 rfl, ?_⟩
    walk_at "WK"
    refine ⟨fun z => absurd z (by decide), fun _ => ?_⟩
    walk_at "WK"
    refine ⟨l3, 114, at0 rfl, ?_⟩
    walk_at "WK"
    refine ⟨fun _ => ?_, fun z => absurd z (by decide)⟩
    walk_at "WK"
    refine ⟨l3, ?_⟩
    rw [cut_tail _ e, ← txN_sg]
    walk_at "WK"
    refine cw_intS (one_mk ⟨_, _, rfl, txN_int (show v < 10 ^ 200 by omega), Nat.le_trans (txN_le (k := 31) (by decide) (show v < 10 ^ 31 by omega)) (by decide), ?_⟩)
    walk_at "WK"
    first | exact ⟨rfl, rfl⟩ | exact rfl
  | d =>
    walk_at "WK"
    refine ⟨l3, 100, at0 rfl, ?_⟩
    walk_at "WK"
    refine ⟨fun z => absurd z (by decide), fun _ => ?_⟩
    walk_at "WK"
    refine ⟨l3, 100, at0 rfl, ?_⟩
    walk_at "WK"
    refine ⟨fun z => absurd z (by decide), fun _ => ?_⟩
    walk_at "WK"
    refine ⟨fun _ => ?_, fun z => absurd z (by decide)⟩
    walk_at "WK"
    first | exact ⟨rfl, rfl⟩ | exact rfl
  | c v =>
    have hv : -(10 ^ 30) ≤ v ∧ v ≤ 10 ^ 30 := hp
    obtain ⟨ch, r, e, h1, h2⟩ : ∃ ch r, (Wd.c v).sg = ch :: r ∧ 45 ≤ ch ∧ ch ≤ 57 := by
      rw [wd_c]
      split
      · exact ⟨45, _, rfl, by decide, by decide⟩
      · obtain ⟨ch, r, e1, h1, h2, _⟩ := num_head v.natAbs
        exact ⟨ch, r, e1, by omega, h2⟩
    have hat : atI (Wd.c v).tx.cps.toList 0 = some ch := at0 e
    walk_at "WK"
    refine ⟨l3, ch, hat, ?_⟩
    walk_at "WK"
    rw [txt_p]
    refine ⟨shp_sg (l := [ch]) (by simp; omega), shp_sg (by simp), ?_⟩
    rw [show (⟨#[ch]⟩ : Str) = sg [ch] from rfl, eqv_sg, decide_eq_false (fun z => by have := (List.cons.inj z).1; omega)]
    walk_at "WK"
    refine ⟨fun z => (nomatch z), fun _ => ?_⟩
    walk_at "WK"
    refine ⟨l3, ch, hat, ?_⟩
    walk_at "WK"
    rw [txt_r]
    refine ⟨shp_sg (l := [ch]) (by simp; omega), shp_sg (by simp), ?_⟩
    rw [show (⟨#[ch]⟩ : Str) = sg [ch] from rfl, eqv_sg, decide_eq_false (fun z => by have := (List.cons.inj z).1; omega)]
    walk_at "WK"
    refine ⟨fun z => (nomatch z), fun _ => ?_⟩
    walk_at "WK"
    rw [txt_d]
    refine ⟨shp_wd (.c v), shp_sg (by simp), ?_⟩
    rw [show (Wd.c v).tx = sg (Wd.c v).sg from rfl, eqv_sg, decide_eq_false (fun z => by rw [e] at z; have := (List.cons.inj z).1; omega)]
    walk_at "WK"
    refine ⟨fun z => (nomatch z), fun _ => ?_⟩
    walk_at "WK"
    first | exact ⟨rfl, rfl⟩ | exact rfl
end
end Wx

/-! ### part U2 -/
set_option Elab.async false
set_option linter.all false
set_option maxRecDepth 100000
set_option maxHeartbeats 1000000
set_option autoImplicit false
/-! What is open: frames, and how words change them. -/
namespace Wx
open PySem L2
inductive Kd where
  | all
  | rep
  | one
  | two
deriving DecidableEq
def Kd.nm : Kd → Str
  | .all => Str.ofString "all"
  | .rep => Str.ofString "repeat"
  | .one => Str.ofString "first"
  | .two => Str.ofString "second"
structure Fr where
  k : Kd
  g : Int
  fl : Bool
  b : Int
def Fr.d (f : Fr) : PyData := .tuple [.str f.k.nm, .int f.g, .bool f.fl, .int f.b]
def frL (fs : List Fr) : List PyData := fs.reverse.map Fr.d
inductive Run : List Tk → List Fr → Prop
  | nil {f : Fr} : Run [] [f]
  | w {w : Wd} {ts : List Tk} {k : Kd} {g b : Int} {fl : Bool} {r : List Fr} : okWd w → Run ts (⟨k, g + (mW w).2.2, true, b⟩ :: r) → Run (.w w :: ts) (⟨k, g, fl, b⟩ :: r)
  | op {ts : List Tk} {f : Fr} {r : List Fr} : r.length + 1 ≤ 12 → Run ts (⟨.rep, 0, false, 0⟩ :: f :: r) → Run (.op :: ts) (f :: r)
  | bo {ts : List Tk} {f : Fr} {r : List Fr} : r.length + 1 ≤ 12 → Run ts (⟨.one, 0, false, 0⟩ :: f :: r) → Run (.bo :: ts) (f :: r)
  | bi {ts : List Tk} {g b : Int} {fl : Bool} {r : List Fr} : Run ts (⟨.two, 0, false, g⟩ :: r) → Run (.bi :: ts) (⟨.one, g, fl, b⟩ :: r)
  | cl {n : Nat} {ts : List Tk} {k : Kd} {g g1 b b1 : Int} {fl1 : Bool} {r : List Fr} : 2 ≤ n → n ≤ 10 ^ 30 → -100 ≤ g ∧ g ≤ 100 → Run ts (⟨k, g1 + n * g, true, b1⟩ :: r) → Run (.cl n :: ts) (⟨.rep, g, true, b⟩ :: ⟨k, g1, fl1, b1⟩ :: r)
  | bc {ts : List Tk} {k : Kd} {g g1 b1 : Int} {fl fl1 : Bool} {r : List Fr} : Run ts (⟨k, g1 + g, true, b1⟩ :: r) → Run (.bc :: ts) (⟨.two, g, fl, g⟩ :: ⟨k, g1, fl1, b1⟩ :: r)
/-! ## what holds for all measures -/
def okMs (m : Int × Int × Int) : Prop := 0 ≤ m.1 ∧ 0 ≤ m.2.1 ∧ -m.1 ≤ m.2.2 ∧ m.2.2 ≤ m.2.1
theorem mxI_eq (i j : Int) : mxI i j = max i j := by
  unfold mxI
  split <;> omega
theorem okMs_join {a b : Int × Int × Int} (ha : okMs a) (hb : okMs b) : okMs (joinM a b) := by
  obtain ⟨a1, a2, a3, a4⟩ := ha
  obtain ⟨b1, b2, b3, b4⟩ := hb
  unfold okMs joinM
  dsimp only
  rw [mxI_eq, mxI_eq]
  refine ⟨?_, ?_, ?_, ?_⟩ <;> omega
theorem okMs_rep {a : Int × Int × Int} {n : Int} (ha : okMs a) (hn : 1 ≤ n) : okMs (repM a n) := by
  obtain ⟨a1, a2, a3, a4⟩ := ha
  unfold okMs repM
  dsimp only
  rw [mxI_eq, mxI_eq]
  have hn0 : (0 : Int) ≤ n - 1 := by omega
  have p1 : (0 : Int) ≤ (n - 1) * max 0 (-a.2.2) := Int.mul_nonneg hn0 (by omega)
  have p2 : (0 : Int) ≤ (n - 1) * max 0 a.2.2 := Int.mul_nonneg hn0 (by omega)
  have q1 : -((n - 1) * a.2.2) ≤ (n - 1) * max 0 (-a.2.2) := by
    rw [← Int.mul_neg]
    exact Int.mul_le_mul_of_nonneg_left (by omega) hn0
  have q2 : (n - 1) * a.2.2 ≤ (n - 1) * max 0 a.2.2 := Int.mul_le_mul_of_nonneg_left (by omega) hn0
  have e : n * a.2.2 = (n - 1) * a.2.2 + a.2.2 := by rw [Int.sub_mul, Int.one_mul]; omega
  refine ⟨?_, ?_, ?_, ?_⟩ <;> omega
theorem okMs_cho {a b : Int × Int × Int} (ha : okMs a) (hb : okMs b) : okMs (choM a b) := by
  obtain ⟨a1, a2, a3, a4⟩ := ha
  obtain ⟨b1, b2, b3, b4⟩ := hb
  unfold okMs choM
  dsimp only
  rw [mxI_eq, mxI_eq]
  refine ⟨?_, ?_, ?_, ?_⟩ <;> omega
theorem okMs_w (w : Wd) : okMs (mW w) := by
  cases w <;> (refine ⟨?_, ?_, ?_, ?_⟩ <;> (dsimp only [mW]; omega))
theorem okMs_mA : ∀ {ns : Ns} {m : Int × Int × Int}, wfN ns → okMs m → okMs (mA m ns)
  | .nil, m, _, h => h
  | .dow w r, m, hw, h => okMs_mA (ns := r) hw.2 (okMs_join h (okMs_w w))
  | .rep n b r, m, hw, h => okMs_mA (ns := r) hw.2.2 (okMs_join h (okMs_rep (okMs_mA hw.2.1 ⟨by decide, by decide, by decide, by decide⟩) (by have := hw.1.1; omega)))
  | .cho a b r, m, hw, h => okMs_mA (ns := r) hw.2.2.2 (okMs_join h (okMs_cho (okMs_mA hw.2.1 ⟨by decide, by decide, by decide, by decide⟩) (okMs_mA hw.2.2.1 ⟨by decide, by decide, by decide, by decide⟩)))
theorem okMs_mN {ns : Ns} (h : wfN ns) : okMs (mN ns) := okMs_mA h ⟨by decide, by decide, by decide, by decide⟩
theorem gN_m (ns : Ns) : (mN ns).2.2 = gN ns := by
  have := mA_g ns (0, 0, 0)
  rw [show (0, 0, 0).2.2 = (0 : Int) from rfl, Int.zero_add] at this
  exact this
theorem gN_le {ns : Ns} (h : wfN ns) (h2 : (mN ns).1 + (mN ns).2.1 ≤ 100) : -100 ≤ gN ns ∧ gN ns ≤ 100 := by
  obtain ⟨a, b, c, d⟩ := okMs_mN h
  rw [gN_m] at c d
  omega
def neN : Ns → Bool
  | .nil => false
  | _ => true
theorem neN_of {ns : Ns} (h : ns ≠ .nil) : neN ns = true := by
  cases ns with
  | nil => exact absurd rfl h
  | dow w r => rfl
  | rep n b r => rfl
  | cho a b r => rfl
theorem run_ns : ∀ {ns : Ns} {ts : List Tk} {k : Kd} {g b : Int} {fl : Bool} {r : List Fr}, wfN ns → dpN ns + r.length + 1 ≤ 13 → Run ts (⟨k, g + gN ns, fl || neN ns, b⟩ :: r) → Run (toks ns ++ ts) (⟨k, g, fl, b⟩ :: r)
  | .nil, ts, k, g, b, fl, r, _, _, h => by
    have e : (g + gN .nil) = g := Int.add_zero g
    have e2 : (fl || neN .nil) = fl := Bool.or_false fl
    rw [e, e2] at h
    exact h
  | .dow w q, ts, k, g, b, fl, r, hw, hd, h => by
    refine Run.w (ts := toks q ++ ts) hw.1 (run_ns hw.2 hd ?_)
    have e : g + gN (.dow w q) = g + (mW w).2.2 + gN q := by show g + ((mW w).2.2 + gN q) = _; omega
    have e2 : (fl || neN (.dow w q)) = (true || neN q) := by show (fl || true) = _; simp
    rw [e, e2] at h
    exact h
  | .rep n a q, ts, k, g, b, fl, r, hw, hd, h => by
    obtain ⟨⟨h2, h3, h4, h5, _⟩, ha, hq⟩ := hw
    have hd' : max (1 + dpN a) (dpN q) + r.length + 1 ≤ 13 := hd
    show Run (.op :: ((toks a ++ .cl n :: toks q) ++ ts)) _
    rw [List.append_assoc, List.cons_append]
    refine Run.op (by omega) (run_ns ha (by show dpN a + (r.length + 1) + 1 ≤ 13; omega) ?_)
    rw [neN_of h4]
    refine Run.cl h2 h3 (by have := gN_le ha h5; omega) (run_ns hq (by omega) ?_)
    have e : g + gN (.rep n a q) = g + (n : Int) * (0 + gN a) + gN q := by show g + ((n : Int) * gN a + gN q) = _; rw [Int.zero_add]; omega
    have e2 : (fl || neN (.rep n a q)) = (true || neN q) := by show (fl || true) = _; simp
    rw [e, e2] at h
    exact h
  | .cho a c q, ts, k, g, b, fl, r, hw, hd, h => by
    obtain ⟨⟨h2, _⟩, ha, hc, hq⟩ := hw
    have hd' : max (1 + max (dpN a) (dpN c)) (dpN q) + r.length + 1 ≤ 13 := hd
    show Run (.bo :: ((toks a ++ .bi :: (toks c ++ .bc :: toks q)) ++ ts)) _
    rw [List.append_assoc, List.cons_append, List.append_assoc, List.cons_append]
    refine Run.bo (by omega) (run_ns ha (by show dpN a + (r.length + 1) + 1 ≤ 13; omega) (Run.bi (run_ns hc (by show dpN c + (r.length + 1) + 1 ≤ 13; omega) ?_)))
    have e0 : (0 : Int) + gN c = 0 + gN a := by rw [h2]
    rw [e0]
    refine Run.bc (run_ns hq (by omega) ?_)
    have e : g + gN (.cho a c q) = g + (0 + gN a) + gN q := by show g + (gN a + gN q) = _; omega
    have e2 : (fl || neN (.cho a c q)) = (true || neN q) := by show (fl || true) = _; simp
    rw [e, e2] at h
    exact h
theorem run_all {ns : Ns} (hw : wfN ns) (hd : dpN ns ≤ 12) : Run (toks ns) [⟨.all, 0, false, 0⟩] := by
  have := run_ns (ts := []) (k := .all) (g := 0) (b := 0) (fl := false) (r := []) hw (by simp; omega) .nil
  rw [List.append_nil] at this
  exact this
theorem frL_cons (f : Fr) (r : List Fr) : frL (f :: r) = frL r ++ [f.d] := by unfold frL; rw [List.reverse_cons, List.map_append]; rfl
theorem frL_len (fs : List Fr) : (frL fs).length = fs.length := by unfold frL; rw [List.length_map, List.length_reverse]
theorem atI_last {α : Type} (xs : List α) (x : α) : atI (xs ++ [x]) (-1) = some x := by
  unfold atI ixN
  rw [List.length_append, if_neg (by decide), if_pos (by simp; omega)]
  have e : ((-1 : Int) + ((xs.length + [x].length : Nat) : Int)).toNat = xs.length := by
    show ((-1 : Int) + ((xs.length + 1 : Nat) : Int)).toNat = xs.length
    omega
  rw [e]
  simp
theorem frL_top (f : Fr) (r : List Fr) : atI (frL (f :: r)) (-1) = some f.d := by rw [frL_cons]; exact atI_last _ _
theorem cut_ini {α : Type} (xs : List α) (x : α) : cutD (xs ++ [x]) none (some (-1)) = xs := by
  unfold cutD
  have e : HT.sIx (xs ++ [x]).length (xs ++ [x]).length (some (-1)) = xs.length := by
    unfold HT.sIx
    rw [List.length_append]
    simp
    omega
  rw [HT.sIx_none, e]
  simp
theorem frL_pop (f : Fr) (r : List Fr) : cutD (frL (f :: r)) none (some (-1)) = frL r := by rw [frL_cons]; exact cut_ini _ _
end Wx

/-! ### part U3 -/
set_option Elab.async false
set_option linter.all false
set_option maxRecDepth 100000
set_option maxHeartbeats 1000000
set_option autoImplicit false
namespace Wx
open PySem L2
theorem txt_o : Str.ofString "(" = sg [40] := by decide +kernel
theorem txt_b : Str.ofString "{" = sg [123] := by decide +kernel
theorem txt_i : Str.ofString "|" = sg [124] := by decide +kernel
theorem txt_e : Str.ofString ")" = sg [41] := by decide +kernel
theorem txt_f : Str.ofString "}" = sg [125] := by decide +kernel
theorem shp_tk (t : Tk) : SeqAt.shaped (.str t.tx) = true := shp_str (tk_ok t)
/-- the tests of first_wrong, for each kind of word -/
def isOB : Tk → Bool
  | .op => true
  | .bo => true
  | _ => false
theorem mem_ob (t : Tk) : Mem (.str t.tx) [.str (Str.ofString "("), .str (Str.ofString "{")] = isOB t := by
  have key : ∀ a : Nat, (PyData.eqv (.str (sg [a])) (.str t.tx)) = decide (t.sg = [a]) := fun a => by
    rw [eqv_strD, decide_eq_decide]
    exact ⟨fun z => (sg_inj z).symm, fun z => by unfold Tk.tx; rw [z]⟩
  rw [txt_o, txt_b]
  unfold Mem
  simp only [List.any_cons, List.any_nil, key, Bool.or_false]
  obtain ⟨c, r, e, k⟩ := tk_cons t
  rw [e]
  cases t with
  | op => obtain ⟨rfl, rfl⟩ := k; rfl
  | bo => obtain ⟨rfl, rfl⟩ := k; rfl
  | bi => obtain ⟨rfl, rfl⟩ := k; rfl
  | bc => obtain ⟨rfl, rfl⟩ := k; rfl
  | w v =>
    dsimp only at k
    rw [decide_eq_false (fun z => by have := (List.cons.inj z).1; omega), decide_eq_false (fun z => by have := (List.cons.inj z).1; omega)]
    rfl
  | cl n =>
    dsimp only at k
    rw [decide_eq_false (fun z => by have := (List.cons.inj z).1; omega), decide_eq_false (fun z => by have := (List.cons.inj z).1; omega)]
    rfl
def isIC : Tk → Bool
  | .bi => true
  | .bc => true
  | _ => false
theorem mem_ic (t : Tk) : Mem (.str t.tx) [.str (Str.ofString "|"), .str (Str.ofString "}")] = isIC t := by
  have key : ∀ a : Nat, (PyData.eqv (.str (sg [a])) (.str t.tx)) = decide (t.sg = [a]) := fun a => by
    rw [eqv_strD, decide_eq_decide]
    exact ⟨fun z => (sg_inj z).symm, fun z => by unfold Tk.tx; rw [z]⟩
  rw [txt_i, txt_f]
  unfold Mem
  simp only [List.any_cons, List.any_nil, key, Bool.or_false]
  obtain ⟨c, r, e, k⟩ := tk_cons t
  rw [e]
  cases t with
  | op => obtain ⟨rfl, rfl⟩ := k; rfl
  | bo => obtain ⟨rfl, rfl⟩ := k; rfl
  | bi => obtain ⟨rfl, rfl⟩ := k; rfl
  | bc => obtain ⟨rfl, rfl⟩ := k; rfl
  | w v =>
    dsimp only at k
    rw [decide_eq_false (fun z => by have := (List.cons.inj z).1; omega), decide_eq_false (fun z => by have := (List.cons.inj z).1; omega)]
    rfl
  | cl n =>
    dsimp only at k
    rw [decide_eq_false (fun z => by have := (List.cons.inj z).1; omega), decide_eq_false (fun z => by have := (List.cons.inj z).1; omega)]
    rfl
theorem eqv_tk (t : Tk) (l : List Nat) : PyData.eqv (.str t.tx) (.str (sg l)) = decide (t.sg = l) := by
  rw [eqv_strD]
  exact tk_tx_eq t l
theorem frL_snoc {p : PyData} (f : Fr) (r : List Fr) (h : p = f.d) : frL r ++ [p] = frL (f :: r) := by rw [frL_cons, h]
theorem fw_end {x : List Tk} {n i : Nat} {fs : List Fr} {F : List PyData} {s3 s4 s5 s6 s7 s8 s9 : Slo} (hF : F = frL fs) (hr : Run (x.drop (i + 1)) fs) (hl : fs.length ≤ 13) :
    ∃ fs' t3 t4 t5 t6 t7 t8 t9, (⟨[.val (.py (.list (ttx x))), .val (.dct []), .val (.py (.list F)), s3, s4, s5, s6, s7, s8, s9], n⟩ : En) = ⟨[.val (.py (.list (ttx x))), .val (.dct []), .val (.py (.list (frL fs'))), t3, t4, t5, t6, t7, t8, t9], n⟩ ∧ Run (x.drop (i + 1)) fs' ∧ fs'.length ≤ 13 :=
  ⟨fs, s3, s4, s5, s6, s7, s8, s9, by rw [hF], hr, hl⟩
theorem fr_len {fs : List Fr} {p : PyData} (h : fs.length ≤ 13) : (frL fs).length + [p].length ≤ sizeLine := by rw [frL_len, sizeLine_eq]; simp; omega

section
variable {P : Program} {w : World} {K : PySem.W.Frag} {mg : Str → Option Value} {base : Heap} {f C : Addr} {fd : FuncData}
abbrev sp_first_wrong (K : PySem.W.Frag) : Sp := SpX (ι := List Tk) K (fun ws => [.py (.list (ttx ws)), .dct []]) (fun ws _ => ws.length ≤ 1000 ∧ (∀ t ∈ ws, okTk t) ∧ Run ws [⟨.all, 0, false, 0⟩]) fun ws n d m => d = .py .none ∧ m = n
theorem ln_first_wrong (ws : List Tk) : [D.py (.list (ttx ws)), .dct []].length = 2 := rfl
theorem nm_first_wrong (ws : List Tk) : [D.py (.list (ttx ws)), .dct []].all D.nm = true := rfl
theorem sc_first_wrong : FnScope ["words", "growths", "frames", "index", "word", "kind", "growth", "filled", "before", "more"] ["words", "growths"] (defScope (top 46)) := ⟨rfl, rfl, rfl, by decide +kernel, rfl, by decide +kernel, by decide +kernel⟩
theorem ok_first_wrong (F : FnP K "first_wrong" "first_wrong" (top 46) f fd) (g_enumerate : mg "enumerate" = none) (i_MOST_WORDS : GInt mg "MOST_WORDS" 1000) (i_MOST_OPEN : GInt mg "MOST_OPEN" 12) (g_len : mg "len" = none) (g_int : mg "int" = none) (S_is_instruction : Std P w K mg base 3 "is_instruction" ["word"] (sp_is_instruction K)) (S_is_decimal : Std P w K mg base 1 "is_decimal" ["signs", "low", "high"] (sp_is_decimal K)) (i_MOST_TIMES : GInt mg "MOST_TIMES" (10 ^ 30)) (S_measure_of : Std P w K mg base 1 "measure_of" ["word"] (sp_measure_of K)) : FnOk P w K mg base CX0 4 f fd ["words", "growths"] (sp_first_wrong K) := by
  refine F.ok sc_first_wrong (sx_len ln_first_wrong) (fun cdv A outer s H vs Q E hr h => ?_)
  have nd := sc_first_wrong.nd
  refine ⟨_, PSs.nox (pss_cons (ps_set (i := 2) nd rfl (Or.inl rfl) (pe_lst (pa_cons (pe_tup (pa_cons (pe_str) (pa_cons (pe_int) (pa_cons (pe_bl) (pa_cons (pe_int) (pa_nil)))))) (pa_nil))))
 (pss_cons (ps_for PassesOwn.never rfl (enumLK (K := K) rfl rfl g_enumerate (pa_cons (pv 0) (pa_nil))) (gtupK (K := K) (n := 2) rfl rfl (pgs_cons (pg_name (i := 3) nd rfl (Or.inl rfl)) (pgs_cons (pg_name (i := 4) nd rfl (Or.inl rfl)) (pgs_nil)))) (pss_cons (ps_asg (pe_ix (ixK (K := K) rfl) (pv 2) (pe_un un_neg (pe_int)) (fun _ _ => rfl)) (gtupK (K := K) (n := 4) rfl rfl (pgs_cons (pg_name (i := 5) nd rfl (Or.inl rfl)) (pgs_cons (pg_name (i := 6) nd rfl (Or.inl rfl)) (pgs_cons (pg_name (i := 7) nd rfl (Or.inl rfl)) (pgs_cons (pg_name (i := 8) nd rfl (Or.inl rfl)) (pgs_nil)))))))
 (pss_cons (ps_if (pt_cmpR op_ge (pv 3) (pe_gint i_MOST_WORDS rfl) (nomark _)) (pss_one (ps_ret (pv 3))) (pss_nil))
 (pss_one (ps_if (pt_cmpR (inK (K := K) rfl (room65 hr)) (pv 4) (pe_tup (pa_cons (pe_str) (pa_cons (pe_str) (pa_nil)))) (by rfl)) (pss_cons (ps_if (pt_cmpR op_gt (pe_callB (lenK (K := K) rfl) rfl g_len PySem.boot_len (pa_cons (pv 2) (pa_nil))) (pe_gint i_MOST_OPEN rfl) (nomark _)) (pss_one (ps_ret (pv 3))) (pss_nil))
 (pss_one (ps_set (i := 2) nd rfl (Or.inl rfl) (pe_op (addK (K := K) rfl) (pv 2) (pe_lst (pa_cons (pe_tup (pa_cons (pe_ifExp (pt_cmpR (eqK (K := K) rfl (room64 hr)) (pv 4) (pe_str) (nomark _)) (pe_str) (pe_str)) (pa_cons (pe_int) (pa_cons (pe_bl) (pa_cons (pe_int) (pa_nil)))))) (pa_nil))))))) (pss_one (ps_if (pt_cmpR (eqK (K := K) rfl (room64 hr)) (pv 4) (pe_str) (nomark _)) (pss_cons (ps_if (pt_cmpR (neK (K := K) rfl (room64 hr)) (pv 5) (pe_str) (nomark _)) (pss_one (ps_ret (pv 3))) (pss_nil))
 (pss_one (ps_set (i := 2) nd rfl (Or.inl rfl) (pe_op (addK (K := K) rfl) (pe_slice (slK (K := K) rfl) (pv 2) po_none (po_some (pe_un un_neg (pe_int)))) (pe_lst (pa_cons (pe_tup (pa_cons (pe_str) (pa_cons (pe_int) (pa_cons (pe_bl) (pa_cons (pv 6) (pa_nil)))))) (pa_nil))))))) (pss_cons (ps_set (i := 9) nd rfl (Or.inl rfl) (pe_int))
 (pss_cons (ps_if (pt_cmpR (eqK (K := K) rfl (room64 hr)) (pe_slice (slK (K := K) rfl) (pv 4) po_none (po_some (pe_int))) (pe_str) (nomark _)) (pss_cons (ps_if (PW.pt (pw_or (pt_cmpR (neK (K := K) rfl (room64 hr)) (pv 5) (pe_str) (nomark _)) (pw_or (pt_not (truK (K := K) rfl (pv 7) (by intro _; rfl))) (pw_or1 (pt_not (truK (K := K) rfl (pe_std S_is_decimal (hr.mono (by decide)) rfl (pa_cons (pe_slice (slK (K := K) rfl) (pv 4) (po_some (pe_int)) po_none) (pa_cons (pe_int) (pa_cons (pe_gint i_MOST_TIMES rfl) (pa_nil))))) (by intro _; rfl))))))) (pss_one (ps_ret (pv 3))) (pss_nil))
 (pss_cons (ps_set (i := 9) nd rfl (Or.inl rfl) (pe_op opMUL (pe_callTy callINTS rfl g_int bt_int (pa_cons (pe_slice (slK (K := K) rfl) (pv 4) (po_some (pe_int)) po_none) (pa_nil))) (pv 6)))
 (pss_one (ps_set (i := 2) nd rfl (Or.inl rfl) (pe_slice (slK (K := K) rfl) (pv 2) po_none (po_some (pe_un un_neg (pe_int)))))))) (pss_one (ps_if (pt_cmpR (eqK (K := K) rfl (room64 hr)) (pv 4) (pe_str) (nomark _)) (pss_cons (ps_if (PW.pt (pw_or (pt_cmpR (neK (K := K) rfl (room64 hr)) (pv 5) (pe_str) (nomark _)) (pw_or1 (pt_cmpR (neK (K := K) rfl (room64 hr)) (pv 6) (pv 8) (nomark _))))) (pss_one (ps_ret (pv 3))) (pss_nil))
 (pss_cons (ps_set (i := 9) nd rfl (Or.inl rfl) (pv 6))
 (pss_one (ps_set (i := 2) nd rfl (Or.inl rfl) (pe_slice (slK (K := K) rfl) (pv 2) po_none (po_some (pe_un un_neg (pe_int)))))))) (pss_one (ps_if (truK (K := K) rfl (pe_std S_is_instruction hr rfl (pa_cons (pv 4) (pa_nil))) (by intro _; rfl)) (pss_one (ps_set (i := 9) nd rfl (Or.inl rfl) (pe_ix (ixK (K := K) rfl) (pe_std S_measure_of (hr.mono (by decide)) rfl (pa_cons (pv 4) (pa_nil))) (pe_int) (fun _ _ => rfl)))) (pss_one (ps_if (pt_cmp (pc_din (hu_of hr) (pv 4) (pv 1)) (by rfl)) (pss_one (ps_never)) (pss_one (ps_ret (pv 3))))))))))
 (pss_cons (ps_asg (pe_ix (ixK (K := K) rfl) (pv 2) (pe_un un_neg (pe_int)) (fun _ _ => rfl)) (gtupK (K := K) (n := 4) rfl rfl (pgs_cons (pg_name (i := 5) nd rfl (Or.inl rfl)) (pgs_cons (pg_name (i := 6) nd rfl (Or.inl rfl)) (pgs_cons (pg_name (i := 7) nd rfl (Or.inl rfl)) (pgs_cons (pg_name (i := 8) nd rfl (Or.inl rfl)) (pgs_nil)))))))
 (pss_one (ps_set (i := 2) nd rfl (Or.inl rfl) (pe_op (addK (K := K) rfl) (pe_slice (slK (K := K) rfl) (pv 2) po_none (po_some (pe_un un_neg (pe_int)))) (pe_lst (pa_cons (pe_tup (pa_cons (pv 5) (pa_cons (pe_op (addK (K := K) rfl) (pv 6) (pv 9)) (pa_cons (pe_bl) (pa_cons (pv 8) (pa_nil)))))) (pa_nil))))))))))))))))
 (pss_one (ps_ret (pe_ifExp (pt_cmpR (eqK (K := K) rfl (room64 hr)) (pe_callB (lenK (K := K) rfl) rfl g_len PySem.boot_len (pa_cons (pv 2) (pa_nil))) (pe_int) (nomark _)) (pe_non) (pe_callB (lenK (K := K) rfl) rfl g_len PySem.boot_len (pa_cons (pv 0) (pa_nil)))))))), ?_⟩
  refine body_x nm_first_wrong ?_ vs H Q E h
  clear h hr
  intro c n x hK hp
  (subst hK)
  try clear g_enumerate i_MOST_WORDS i_MOST_OPEN g_len g_int S_is_instruction S_is_decimal i_MOST_TIMES S_measure_of F
  obtain ⟨h1, h2, h0⟩ : x.length ≤ 1000 ∧ (∀ t ∈ x, okTk t) ∧ Run x [⟨.all, 0, false, 0⟩] := hp
  walk_at "WK"
  refine ws_for [3, 4] (wi_enumL rfl ?_)
  walk_at "WK"
  refine ⟨_, rfl, ?_⟩
  refine ⟨fun i e1 => ∃ fs s3 s4 s5 s6 s7 s8 s9, e1 = ⟨[.val (.py (.list (ttx x))), .val (.dct []), .val (.py (.list (frL fs))), s3, s4, s5, s6, s7, s8, s9], n⟩ ∧ Run (x.drop i) fs ∧ fs.length ≤ 13, ⟨[⟨.all, 0, false, 0⟩], .emp, .emp, .emp, .emp, .emp, .emp, .emp, rfl, h0, by decide⟩, ?_, ?_⟩
  · rintro i d e1 hd ⟨fs, s3, s4, s5, s6, s7, s8, s9, rfl, hr, hlen⟩
    rw [enumD_get] at hd
    obtain ⟨t, ht, htm, rfl⟩ : ∃ w, x[i]? = some w ∧ w ∈ x ∧ d = .py (.tuple [.int (i : Int), .str w.tx]) := by
      cases q : (ttx x)[i]? with
      | none => rw [q] at hd; cases hd
      | some p =>
        obtain ⟨w, a, b, rfl⟩ := ttx_at q
        rw [q] at hd
        cases hd
        exact ⟨w, a, b, rfl⟩
    have hi : i < x.length := (List.getElem?_eq_some_iff.mp ht).1
    have ed : x.drop i = t :: x.drop (i + 1) := by
      rw [List.drop_eq_getElem_cons hi]
      congr 1
      exact (List.getElem?_eq_some_iff.mp ht).2
    rw [ed] at hr
    have okt := h2 t htm
    have ht33 := tk_len okt
    have l3 : t.tx.length ≤ sizeLine := by unfold Tk.tx; rw [sg_len]; exact Nat.le_trans ht33.2 (by rw [sizeLine_eq]; decide)
    obtain ⟨⟨k, g, fl, b⟩, r, rfl⟩ : ∃ f r, fs = f :: r := by cases hr <;> exact ⟨_, _, rfl⟩
    refine wg_pair rfl ⟨_, _, rfl, wg_name ⟨rfl, wg_name ⟨rfl, ?_⟩ (Nat.le_of_ble_eq_true rfl) (by decide)⟩ (Nat.le_of_ble_eq_true rfl) (by decide)⟩
    refine ws_seq ?_
    refine ws_asg [5, 6, 7, 8] ?_
    walk_at "WK"
    refine ⟨_, frL_top _ _, ?_⟩
    refine wg_quad rfl ⟨_, _, _, _, rfl, wg_name ⟨rfl, wg_name ⟨rfl, wg_name ⟨rfl, wg_name ⟨rfl, ?_⟩ (Nat.le_of_ble_eq_true rfl) (by decide)⟩ (Nat.le_of_ble_eq_true rfl) (by decide)⟩ (Nat.le_of_ble_eq_true rfl) (by decide)⟩ (Nat.le_of_ble_eq_true rfl) (by decide)⟩
    show Ws c _ ⟨[.val (.py (.list (ttx x))), .val (.dct []), .val (.py (.list (frL (⟨k, g, fl, b⟩ :: r)))), .val (.py (.int (i : Int))), .val (.py (.str t.tx)), .val (.py (.str k.nm)), .val (.py (.int g)), .val (.py (.bool fl)), .val (.py (.int b)), s9], n⟩ _
    refine ws_seq ?_
    walk_at "WK"
    refine ⟨fun z => absurd (of_decide_eq_true z) (by omega), fun _ => ?_⟩
    walk_at "WK"
    refine ⟨shp_tk t, by decide +kernel, ?_⟩
    rw [mem_ob]
    cases hr with
    | @w v _ _ _ _ _ _ hw hr =>
      rw [show isOB (.w v) = false from rfl]
      refine ⟨fun z => (nomatch z), fun _ => ?_⟩
      obtain ⟨ch, r1, ew, c1, c2⟩ := wd_cons0 (w := v)
      have e' : (Tk.w v).tx.cps.toList = ch :: r1 := ew
      have es : (Tk.w v).sg = ch :: r1 := ew
      walk_at "WK"
      rw [txt_i]
      refine ⟨shp_tk _, shp_sg (by simp), ?_⟩
      rw [eqv_tk, es, decide_eq_false (fun z => by have := (List.cons.inj z).1; omega)]
      walk_at "WK"
      refine ⟨fun z => (nomatch z), fun _ => ?_⟩
      walk_at "WK"
      refine ⟨l3, ?_⟩
      rw [cut_head _ e']
      walk_at "WK"
      rw [txt_e]
      refine ⟨shp_sg (l := [ch]) (by simp; omega), shp_sg (by simp), ?_⟩
      rw [eqv_sg, decide_eq_false (fun z => by have := (List.cons.inj z).1; omega)]
      walk_at "WK"
      refine ⟨fun z => (nomatch z), fun _ => ?_⟩
      walk_at "WK"
      rw [txt_f]
      refine ⟨shp_tk _, shp_sg (by simp), ?_⟩
      rw [eqv_tk, es, decide_eq_false (fun z => by have := (List.cons.inj z).1; omega)]
      walk_at "WK"
      refine ⟨fun z => (nomatch z), fun _ => ?_⟩
      walk_at "WK"
      refine ⟨v, rfl, hw, ?_⟩
      rintro d m ⟨rfl, rfl⟩
      refine ⟨rfl, ?_⟩
      walk_at "WK"
      refine ⟨fun _ => ?_, fun z => (nomatch z)⟩
      walk_at "WK"
      refine ⟨v, rfl, hw, ?_⟩
      rintro d m ⟨rfl, rfl⟩
      refine ⟨rfl, ?_⟩
      walk_at "WK"
      refine ⟨_, rfl, ?_⟩
      walk_at "WK"
      refine ws_asg [5, 6, 7, 8] ?_
      walk_at "WK"
      refine ⟨_, frL_top _ _, ?_⟩
      refine wg_quad rfl ⟨_, _, _, _, rfl, wg_name ⟨rfl, wg_name ⟨rfl, wg_name ⟨rfl, wg_name ⟨rfl, ?_⟩ (Nat.le_of_ble_eq_true rfl) (by decide)⟩ (Nat.le_of_ble_eq_true rfl) (by decide)⟩ (Nat.le_of_ble_eq_true rfl) (by decide)⟩ (Nat.le_of_ble_eq_true rfl) (by decide)⟩
      walk_at "WK"
      rw [frL_pop]
      refine ⟨fr_len (by simp at hlen ⊢; omega), rfl, fw_end (frL_snoc _ _ rfl) hr (by simp at hlen ⊢; omega)⟩
    | @op _ _ _ hl hr =>
      rw [show isOB .op = true from rfl]
      refine ⟨fun _ => ?_, fun z => (nomatch z)⟩
      walk_at "WK"
      refine ⟨fun z => (by have z' := of_decide_eq_true z; rw [frL_len] at z'; simp at z'; omega), fun _ => ?_⟩
      walk_at "WK"
      refine ⟨fun _ => ?_, fun z => (nomatch z)⟩
      walk_at "WK"
      exact ⟨fr_len hlen, rfl, fw_end (frL_snoc _ _ rfl) hr (by simp; omega)⟩
    | @bo _ _ _ hl hr =>
      rw [show isOB .bo = true from rfl]
      refine ⟨fun _ => ?_, fun z => (nomatch z)⟩
      walk_at "WK"
      refine ⟨fun z => (by have z' := of_decide_eq_true z; rw [frL_len] at z'; simp at z'; omega), fun _ => ?_⟩
      walk_at "WK"
      refine ⟨fun z => (nomatch z), fun _ => ?_⟩
      walk_at "WK"
      exact ⟨fr_len hlen, rfl, fw_end (frL_snoc _ _ rfl) hr (by simp; omega)⟩
    | @bi _ _ _ _ _ hr =>
      rw [show isOB .bi = false from rfl]
      refine ⟨fun z => (nomatch z), fun _ => ?_⟩
      walk_at "WK"
      refine ⟨fun _ => ?_, fun z => (nomatch z)⟩
      refine ws_seq ?_
      walk_at "WK"
      refine ⟨by decide +kernel, by decide +kernel, ?_⟩
      rw [show PyData.eqv (.str Kd.one.nm) (.str (Str.ofString "first")) = true by decide +kernel]
      walk_at "WK"
      refine ⟨fun z => (nomatch z), fun _ => ?_⟩
      walk_at "WK"
      rw [frL_pop]
      refine ⟨fr_len (by simp at hlen ⊢; omega), rfl, fw_end (frL_snoc _ _ rfl) hr (by simp at hlen ⊢; omega)⟩
    | @cl v _ k1 _ g1 _ b1 fl1 r1 hn1 hn2 hg hr =>
      have e' : (Tk.cl v).tx.cps.toList = 41 :: TL.numL v := rfl
      rw [show isOB (.cl v) = false from rfl]
      refine ⟨fun z => (nomatch z), fun _ => ?_⟩
      walk_at "WK"
      rw [txt_i]
      refine ⟨shp_tk _, shp_sg (by simp), ?_⟩
      rw [eqv_tk, show (Tk.cl v).sg = 41 :: TL.numL v from rfl, decide_eq_false (fun z => by have := (List.cons.inj z).1; omega)]
      walk_at "WK"
      refine ⟨fun z => (nomatch z), fun _ => ?_⟩
      walk_at "WK"
      refine ⟨l3, ?_⟩
      rw [cut_head _ e']
      walk_at "WK"
      refine ⟨fun _ => ?_, fun z => absurd z (by decide)⟩
      refine ws_seq ?_
      walk_at "WK"
      refine ⟨by decide +kernel, by decide +kernel, ?_⟩
      rw [show PyData.eqv (.str Kd.rep.nm) (.str (Str.ofString "repeat")) = true by decide +kernel]
      walk_at "WK"
      refine ⟨fun _ => ?_, fun z => (nomatch z)⟩
      walk_at "WK"
      refine ⟨fun _ => ?_, fun z => (nomatch z)⟩
      walk_at "WK"
      refine ⟨l3, ?_⟩
      rw [cut_tail _ e', ← txN_sg]
      walk_at "WK"
      refine ⟨(v, 2, 10 ^ 30), rfl, by show v < 10 ^ 31; omega, ?_⟩
      rintro d m ⟨rfl, rfl⟩
      refine ⟨rfl, ?_⟩
      rw [show decide (((v, (2 : Int), (10 ^ 30 : Int)).2.1 ≤ ((v, (2 : Int), (10 ^ 30 : Int)).1 : Int)) ∧ ((v, (2 : Int), (10 ^ 30 : Int)).1 : Int) ≤ (v, (2 : Int), (10 ^ 30 : Int)).2.2) = true from decide_eq_true (by dsimp only; omega)]
      walk_at "WK"
      refine ⟨fun z => absurd z (by simp), fun _ => ?_⟩
      walk_at "WK"
      refine ⟨l3, ?_⟩
      rw [cut_tail _ e', ← txN_sg]
      walk_at "WK"
      refine cw_intS (one_mk ⟨_, _, rfl, txN_int (show v < 10 ^ 200 by omega), Nat.le_trans (txN_le (k := 31) (by decide) (show v < 10 ^ 31 by omega)) (by decide), ?_⟩)
      walk_at "WK"
      refine rw_mI (wide_mul (a := 200) (b := 200) (by omega) (by omega) (by decide) (by decide) (by decide)) ?_
      walk_at "WK"
      rw [frL_pop]
      refine ws_asg [5, 6, 7, 8] ?_
      walk_at "WK"
      refine ⟨_, frL_top _ _, ?_⟩
      refine wg_quad rfl ⟨_, _, _, _, rfl, wg_name ⟨rfl, wg_name ⟨rfl, wg_name ⟨rfl, wg_name ⟨rfl, ?_⟩ (Nat.le_of_ble_eq_true rfl) (by decide)⟩ (Nat.le_of_ble_eq_true rfl) (by decide)⟩ (Nat.le_of_ble_eq_true rfl) (by decide)⟩ (Nat.le_of_ble_eq_true rfl) (by decide)⟩
      walk_at "WK"
      rw [frL_pop]
      refine ⟨fr_len (by simp at hlen ⊢; omega), rfl, fw_end (frL_snoc _ _ rfl) hr (by simp at hlen ⊢; omega)⟩
    | @bc _ k1 _ g1 b1 _ fl1 r1 hr =>
      rw [show isOB .bc = false from rfl]
      refine ⟨fun z => (nomatch z), fun _ => ?_⟩
      walk_at "WK"
      refine ⟨fun z => (nomatch z), fun _ => ?_⟩
      walk_at "WK"
      refine ⟨l3, ?_⟩
      rw [cut_head (c := 125) (r := []) _ rfl]
      walk_at "WK"
      refine ⟨fun z => absurd z (by decide), fun _ => ?_⟩
      walk_at "WK"
      refine ⟨fun _ => ?_, fun z => (nomatch z)⟩
      refine ws_seq ?_
      walk_at "WK"
      refine ⟨by decide +kernel, by decide +kernel, ?_⟩
      rw [show PyData.eqv (.str Kd.two.nm) (.str (Str.ofString "second")) = true by decide +kernel]
      walk_at "WK"
      refine ⟨fun _ => ?_, fun z => (nomatch z)⟩
      walk_at "WK"
      refine ⟨fun z => absurd z (by simp), fun _ => ?_⟩
      walk_at "WK"
      rw [frL_pop]
      refine ws_asg [5, 6, 7, 8] ?_
      walk_at "WK"
      refine ⟨_, frL_top _ _, ?_⟩
      refine wg_quad rfl ⟨_, _, _, _, rfl, wg_name ⟨rfl, wg_name ⟨rfl, wg_name ⟨rfl, wg_name ⟨rfl, ?_⟩ (Nat.le_of_ble_eq_true rfl) (by decide)⟩ (Nat.le_of_ble_eq_true rfl) (by decide)⟩ (Nat.le_of_ble_eq_true rfl) (by decide)⟩ (Nat.le_of_ble_eq_true rfl) (by decide)⟩
      walk_at "WK"
      rw [frL_pop]
      refine ⟨fr_len (by simp at hlen ⊢; omega), rfl, fw_end (frL_snoc _ _ rfl) hr (by simp at hlen ⊢; omega)⟩
  · rintro e1 ⟨fs, s3, s4, s5, s6, s7, s8, s9, rfl, hr, hlen⟩
    rw [List.drop_of_length_le (by rw [enumD_len, ttx_len]; exact Nat.le_refl _)] at hr
    cases hr
    walk_at "WK"
    refine ⟨fun _ => ?_, fun z => absurd (of_decide_eq_false z) (fun q => q rfl)⟩
    walk_at "WK"
    first | exact ⟨rfl, rfl⟩ | exact rfl
end
end Wx

/-! ### part U4 -/
set_option Elab.async false
set_option linter.all false
set_option maxRecDepth 100000
set_option maxHeartbeats 1000000
set_option autoImplicit false
/-! Nodes as data; recursion by depth. -/
namespace Wx
open PySem L2
def dat : Nat → Ns → List PyData
  | _, .nil => []
  | p, .dow w r => .tuple [.str (Str.ofString "do"), .str w.tx, .int (p : Int)] :: dat (p + 1) r
  | p, .rep n b r => .tuple [.str (Str.ofString "repeat"), .int (n : Int), .tuple (dat (p + 1) b), .int (p : Int)] :: dat (p + 2 + tkN b) r
  | p, .cho a b r => .tuple [.str (Str.ofString "choice"), .tuple (dat (p + 1) a), .tuple (dat (p + 2 + tkN a) b), .int (p : Int)] :: dat (p + 3 + tkN a + tkN b) r
/-- how many nodes -/
def nN : Ns → Nat
  | .nil => 0
  | .dow _ r => 1 + nN r
  | .rep _ _ r => 1 + nN r
  | .cho _ _ r => 1 + nN r
theorem dat_len : ∀ (p : Nat) (ns : Ns), (dat p ns).length = nN ns
  | _, .nil => rfl
  | p, .dow w r => by show (dat (p + 1) r).length + 1 = 1 + nN r; rw [dat_len]; omega
  | p, .rep n b r => by show (dat (p + 2 + tkN b) r).length + 1 = 1 + nN r; rw [dat_len]; omega
  | p, .cho a b r => by show (dat (p + 3 + tkN a + tkN b) r).length + 1 = 1 + nN r; rw [dat_len]; omega
theorem nN_le : ∀ ns : Ns, nN ns ≤ tkN ns
  | .nil => Nat.le_refl _
  | .dow w r => by have := nN_le r; show 1 + nN r ≤ 1 + tkN r; omega
  | .rep n b r => by have := nN_le r; show 1 + nN r ≤ 2 + tkN b + tkN r; omega
  | .cho a b r => by have := nN_le r; show 1 + nN r ≤ 3 + tkN a + tkN b + tkN r; omega
section
variable {P : Program} {w : World} {K : PySem.W.Frag} {mg : Str → Option Value} {base : Heap} {f : Addr} {fd : FuncData} {k : Nat} {ps : List Str}
/-- a promise that is never asked for -/
theorem fnok_void {sp : Sp} {CX : CXT} (h : ∀ vs H Q E, ¬ sp vs H Q E) : FnOk P w K mg base CX k f fd ps sp :=
  ⟨fun vs H Q E q => absurd q (h vs H Q E), fun _ _ _ H _ _ vs Q E _ _ _ _ q => absurd q (h vs H Q E)⟩
/-- a def that calls itself: its promise for depth 0, and one step -/
theorem rec_ok {sp : Nat → Sp} {x : Str} {k0 : Nat} (hm : mg x = some (.ref f)) (hk : PySem.W.keepIn K (.ref f) = true) (hb : Binds K fd ps [])
    (h0 : ∀ vs H Q E, ¬ sp 0 vs H Q E) (hs : ∀ d, Std P w K mg base (d + k0) x ps (sp d) → FnOk P w K mg base CX0 (d + k0 + 1) f fd ps (sp (d + 1))) : ∀ d, FnOk P w K mg base CX0 (d + k0) f fd ps (sp d)
  | 0 => fnok_void h0
  | d + 1 => by
    have := hs d ⟨f, fd, rec_ok hm hk hb h0 hs d, hm, hk, hb⟩
    rw [show d + 1 + k0 = d + k0 + 1 by omega]
    exact this
end
end Wx

/-! ### part U5 -/
set_option Elab.async false
set_option linter.all false
set_option maxRecDepth 100000
set_option maxHeartbeats 1000000
set_option autoImplicit false
namespace Wx
open PySem L2
def EndT : List Tk → Prop
  | [] => True
  | .bi :: _ => True
  | .bc :: _ => True
  | .cl _ :: _ => True
  | _ => False
def NfP (dp : Nat) (ts : List Tk) (p : Nat) (ns : Ns) : Prop := ts.length ≤ 1000 ∧ (∀ t ∈ ts, okTk t) ∧ dpN ns < dp ∧ ∃ rest, ts.drop p = toks ns ++ rest ∧ EndT rest
theorem drop_tk {ts : List Tk} {p : Nat} {t : Tk} {r : List Tk} (h : ts.drop p = t :: r) : ts[p]? = some t ∧ t ∈ ts ∧ p < ts.length ∧ ts.drop (p + 1) = r := by
  have e1 : ts[p]? = some t := by
    have := congrArg (fun l : List Tk => l[0]?) h
    rw [List.getElem?_drop] at this
    exact this
  have hp := (List.getElem?_eq_some_iff.mp e1).1
  refine ⟨e1, List.mem_of_getElem? e1, hp, ?_⟩
  rw [List.drop_eq_getElem_cons hp] at h
  exact (List.cons.inj h).2
theorem drop_app {ts a r : List Tk} {p : Nat} (h : ts.drop p = a ++ r) : ts.drop (p + a.length) = r := by
  rw [← List.drop_drop, h]
  simp
theorem nf_end {ts rest : List Tk} {p q' M n : Nat} {ns r' : Ns} {L' : List PyData} {s3 s4 s5 s6 s7 : Slo} {Q : Int} (hm : tkN r' < M) (hQ : Q = (q' : Int)) (a : L' ++ dat q' r' = dat p ns) (b : q' + tkN r' = p + tkN ns) (c : ts.drop q' = toks r' ++ rest) (d : dpN r' ≤ dpN ns) :
    ∃ m', m' < M ∧ ∃ q ms L t3 t4 t5 t6 t7, m' = tkN ms ∧ L ++ dat q ms = dat p ns ∧ q + tkN ms = p + tkN ns ∧ ts.drop q = toks ms ++ rest ∧ dpN ms ≤ dpN ns ∧
      (⟨[.val (.py (.list (ttx ts))), .val (.py (.int Q)), .own (.lst L'), s3, s4, s5, s6, s7], n⟩ : En) = ⟨[.val (.py (.list (ttx ts))), .val (.py (.int (q : Int))), .own (.lst L), t3, t4, t5, t6, t7], n⟩ :=
  ⟨tkN r', hm, q', r', L', s3, s4, s5, s6, s7, rfl, a, b, c, d, by rw [hQ]⟩

section
variable {P : Program} {w : World} {K : PySem.W.Frag} {mg : Str → Option Value} {base : Heap} {f C : Addr} {fd : FuncData} {dp : Nat}
abbrev sp_nodes_from (K : PySem.W.Frag) (dp : Nat) : Sp := SpX (ι := List Tk × Nat × Ns) K (fun x => [.py (.list (ttx x.1)), .py (.int (x.2.1 : Int))]) (fun x _ => NfP dp x.1 x.2.1 x.2.2) fun x n d m => d = .py (.tuple [.tuple (dat x.2.1 x.2.2), .int ((x.2.1 + tkN x.2.2 : Nat) : Int)]) ∧ m = n
theorem ln_nodes_from (x : List Tk × Nat × Ns) : [D.py (.list (ttx x.1)), .py (.int (x.2.1 : Int))].length = 2 := rfl
theorem nm_nodes_from (x : List Tk × Nat × Ns) : [D.py (.list (ttx x.1)), .py (.int (x.2.1 : Int))].all D.nm = true := rfl
theorem sc_nodes_from : FnScope ["words", "place", "found", "at", "body", "first", "middle", "second"] ["words", "place"] (defScope (top 47)) := ⟨rfl, rfl, rfl, by decide +kernel, rfl, by decide +kernel, by decide +kernel⟩
theorem ok_nodes_from (F : FnP K "nodes_from" "nodes_from" (top 47) f fd) (g_len : mg "len" = none) (S_nodes_from : Std P w K mg base (dp + 1) "nodes_from" ["words", "place"] (sp_nodes_from K dp)) (g_int : mg "int" = none) (g_tuple : mg "tuple" = none) : FnOk P w K mg base CX0 (dp + 1 + 1) f fd ["words", "place"] (sp_nodes_from K (dp + 1)) := by
  refine F.ok sc_nodes_from (sx_len ln_nodes_from) (fun cdv A outer s H vs Q E hr h => ?_)
  have nd := sc_nodes_from.nd
  refine ⟨_, PSs.nox (pss_cons (ps_setO (i := 2) nd rfl (Or.inl rfl) (pe_lst (pa_nil)))
 (pss_cons (ps_while PassesOwn.never (PW.pt (pw_and (pt_cmpR op_lt (pv 1) (pe_callB (lenK (K := K) rfl) rfl g_len PySem.boot_len (pa_cons (pv 0) (pa_nil))) (nomark _)) (pw_and (pt_cmpR (niK (K := K) rfl (room65 hr)) (pe_ix (ixK (K := K) rfl) (pv 0) (pv 1) (fun _ _ => rfl)) (pe_tup (pa_cons (pe_str) (pa_cons (pe_str) (pa_nil)))) (by rfl)) (pw_and1 (pt_cmpR (neK (K := K) rfl (room64 hr)) (pe_ix (ixK (K := K) rfl) (pe_ix (ixK (K := K) rfl) (pv 0) (pv 1) (fun _ _ => rfl)) (pe_int) (fun _ _ => rfl)) (pe_str) (nomark _)))))) (pss_cons (ps_set (i := 3) nd rfl (Or.inl rfl) (pv 1))
 (pss_cons (ps_if (pt_cmpR (eqK (K := K) rfl (room64 hr)) (pe_ix (ixK (K := K) rfl) (pv 0) (pv 3) (fun _ _ => rfl)) (pe_str) (nomark _)) (pss_cons (ps_asg (pe_std S_nodes_from hr rfl (pa_cons (pv 0) (pa_cons (pe_op (addK (K := K) rfl) (pv 3) (pe_int)) (pa_nil)))) (gtupK (K := K) (n := 2) rfl rfl (pgs_cons (pg_name (i := 4) nd rfl (Or.inl rfl)) (pgs_cons (pg_name (i := 1) nd rfl (Or.inl rfl)) (pgs_nil)))))
 (pss_one (ps_expr (pe_bm PySem.F.plainAttrs_list PySem.F.slot_list_append PySem.F.type_list_append mt_append (pv 2) (pa_cons (pe_tup (pa_cons (pe_str) (pa_cons (pe_callTy callINTS rfl g_int bt_int (pa_cons (pe_slice (slK (K := K) rfl) (pe_ix (ixK (K := K) rfl) (pv 0) (pv 1) (fun _ _ => rfl)) (po_some (pe_int)) po_none) (pa_nil))) (pa_cons (pv 4) (pa_cons (pv 3) (pa_nil)))))) (pa_nil)))))) (pss_one (ps_if (pt_cmpR (eqK (K := K) rfl (room64 hr)) (pe_ix (ixK (K := K) rfl) (pv 0) (pv 3) (fun _ _ => rfl)) (pe_str) (nomark _)) (pss_cons (ps_asg (pe_std S_nodes_from hr rfl (pa_cons (pv 0) (pa_cons (pe_op (addK (K := K) rfl) (pv 3) (pe_int)) (pa_nil)))) (gtupK (K := K) (n := 2) rfl rfl (pgs_cons (pg_name (i := 5) nd rfl (Or.inl rfl)) (pgs_cons (pg_name (i := 6) nd rfl (Or.inl rfl)) (pgs_nil)))))
 (pss_cons (ps_asg (pe_std S_nodes_from hr rfl (pa_cons (pv 0) (pa_cons (pe_op (addK (K := K) rfl) (pv 6) (pe_int)) (pa_nil)))) (gtupK (K := K) (n := 2) rfl rfl (pgs_cons (pg_name (i := 7) nd rfl (Or.inl rfl)) (pgs_cons (pg_name (i := 1) nd rfl (Or.inl rfl)) (pgs_nil)))))
 (pss_one (ps_expr (pe_bm PySem.F.plainAttrs_list PySem.F.slot_list_append PySem.F.type_list_append mt_append (pv 2) (pa_cons (pe_tup (pa_cons (pe_str) (pa_cons (pv 5) (pa_cons (pv 7) (pa_cons (pv 3) (pa_nil)))))) (pa_nil))))))) (pss_one (ps_expr (pe_bm PySem.F.plainAttrs_list PySem.F.slot_list_append PySem.F.type_list_append mt_append (pv 2) (pa_cons (pe_tup (pa_cons (pe_str) (pa_cons (pe_ix (ixK (K := K) rfl) (pv 0) (pv 3) (fun _ _ => rfl)) (pa_cons (pv 3) (pa_nil))))) (pa_nil))))))))
 (pss_one (ps_set (i := 1) nd rfl (Or.inl rfl) (pe_op (addK (K := K) rfl) (pv 1) (pe_int)))))))
 (pss_one (ps_ret (pe_tup (pa_cons (pe_callTy (tupK (K := K) rfl) rfl g_tuple bt_tuple (pa_cons (pv 2) (pa_nil))) (pa_cons (pv 1) (pa_nil)))))))), ?_⟩
  refine body_x nm_nodes_from ?_ vs H Q E h
  clear h hr
  intro c n x hK hp
  (subst hK)
  try clear g_len S_nodes_from g_int g_tuple F
  obtain ⟨ts, p, ns⟩ := x
  obtain ⟨h1, h2, h3, rest, h4, h5⟩ : NfP (dp + 1) ts p ns := hp
  dsimp only
  have z1 : 1001 ≤ sizeLine := by rw [sizeLine_eq]; decide
  have hlen : p + tkN ns ≤ max p ts.length := by
    have := congrArg List.length h4
    rw [List.length_drop, List.length_append, toks_len] at this
    omega
  have hnn : nN ns ≤ 1000 := by
    have := congrArg List.length h4
    rw [List.length_drop, List.length_append, toks_len] at this
    have := nN_le ns
    omega
  walk_at "WK"
  refine ws_mid (fun e1 => ∃ s3 s4 s5 s6 s7, e1 = ⟨[.val (.py (.list (ttx ts))), .val (.py (.int ((p + tkN ns : Nat) : Int))), .own (.lst (dat p ns)), s3, s4, s5, s6, s7], n⟩) ?_ ?_
  · refine ws_while (fun m e1 => ∃ q ms L s3 s4 s5 s6 s7, m = tkN ms ∧ L ++ dat q ms = dat p ns ∧ q + tkN ms = p + tkN ns ∧ ts.drop q = toks ms ++ rest ∧ dpN ms ≤ dpN ns ∧ e1 = ⟨[.val (.py (.list (ttx ts))), .val (.py (.int (q : Int))), .own (.lst L), s3, s4, s5, s6, s7], n⟩) ⟨tkN ns, p, ns, [], .emp, .emp, .emp, .emp, .emp, rfl, rfl, rfl, h4, Nat.le_refl _, rfl⟩ ?_
    rintro m e1 ⟨q, ms, L, s3, s4, s5, s6, s7, rfl, hL, hq, hd, hdp, rfl⟩
    have hLn : L.length + nN ms ≤ 1000 := by
      have := congrArg List.length hL
      rw [List.length_append, dat_len, dat_len] at this
      omega
    walk_at "WK"
    rw [ttx_len]
    cases ms with
    | nil =>
      have hd' : ts.drop q = rest := hd
      have hL' : L = dat p ns := by rw [← hL]; exact (List.append_nil L).symm
      have hq' : q = p + tkN ns := hq
      refine ⟨fun q1 => ?_, fun q1 => ⟨fun z => (nomatch z), fun _ => ?_⟩⟩
      · have q1' := of_decide_eq_true q1
        cases rest with
        | nil =>
          have := List.drop_eq_nil_iff.mp hd'
          omega
        | cons t rest =>
          obtain ⟨ht, htm, hlt, hd1⟩ := drop_tk hd'
          have ht33 := tk_len (h2 t htm)
          have l3 : t.tx.length ≤ sizeLine := by unfold Tk.tx; rw [sg_len]; exact Nat.le_trans ht33.2 (by rw [sizeLine_eq]; decide)
          walk_at "WK"
          refine ⟨_, ttx_get ht, ?_⟩
          walk_at "WK"
          refine ⟨shp_tk _, by decide +kernel, ?_⟩
          rw [mem_ic]
          cases t with
          | bi =>
            rw [show isIC .bi = true from rfl]
            walk_at "WK"
            refine ⟨fun z => (nomatch z), fun _ => ?_⟩
            walk_at "WK"
            refine ⟨fun z => (nomatch z), fun _ => ?_⟩
            subst hL' hq'
            exact ⟨_, _, _, _, _, rfl⟩
          | bc =>
            rw [show isIC .bc = true from rfl]
            walk_at "WK"
            refine ⟨fun z => (nomatch z), fun _ => ?_⟩
            walk_at "WK"
            refine ⟨fun z => (nomatch z), fun _ => ?_⟩
            subst hL' hq'
            exact ⟨_, _, _, _, _, rfl⟩
          | cl v =>
            rw [show isIC (.cl v) = false from rfl]
            walk_at "WK"
            refine ⟨fun _ => ?_, fun z => (nomatch z)⟩
            walk_at "WK"
            refine ⟨_, ttx_get ht, ?_⟩
            walk_at "WK"
            refine ⟨l3, 41, at0 rfl, ?_⟩
            walk_at "WK"
            refine ⟨by decide +kernel, by decide +kernel, ?_⟩
            rw [show (PyData.str { cps := #[41] }).eqv (PyData.str (Str.ofString ")")) = true by decide +kernel]
            walk_at "WK"
            refine ⟨fun z => (nomatch z), fun _ => ?_⟩
            subst hL' hq'
            exact ⟨_, _, _, _, _, rfl⟩
          | w v => exact h5.elim
          | op => exact h5.elim
          | bo => exact h5.elim
      · subst hL' hq'
        exact ⟨_, _, _, _, _, rfl⟩
    | dow v r =>
      obtain ⟨ht, htm, hlt, hd1⟩ := drop_tk (t := .w v) (r := toks r ++ rest) hd
      have okw : okWd v := h2 _ htm
      obtain ⟨ch, r1, ew, c1, c2⟩ := wd_cons0 (w := v)
      have es : (Tk.w v).sg = ch :: r1 := ew
      have ht33 := tk_len (h2 _ htm)
      have l3 : (Tk.w v).tx.length ≤ sizeLine := by unfold Tk.tx; rw [sg_len]; exact Nat.le_trans ht33.2 (by rw [sizeLine_eq]; decide)
      refine ⟨fun q1 => ?_, fun q1 => absurd (of_decide_eq_false q1) (fun z => z (by omega))⟩
      walk_at "WK"
      refine ⟨_, ttx_get ht, ?_⟩
      walk_at "WK"
      refine ⟨shp_tk _, by decide +kernel, ?_⟩
      rw [mem_ic, show isIC (.w v) = false from rfl]
      walk_at "WK"
      refine ⟨fun _ => ?_, fun z => (nomatch z)⟩
      walk_at "WK"
      refine ⟨_, ttx_get ht, ?_⟩
      walk_at "WK"
      refine ⟨l3, ch, at0 es, ?_⟩
      walk_at "WK"
      rw [txt_e]
      refine ⟨shp_sg (l := [ch]) (by simp; omega), shp_sg (by simp), ?_⟩
      rw [show (⟨#[ch]⟩ : Str) = sg [ch] from rfl, eqv_sg, decide_eq_false (fun z => by have := (List.cons.inj z).1; omega)]
      walk_at "WK"
      refine ⟨fun _ => ?_, fun z => (nomatch z)⟩
      walk_at "WK"
      refine ⟨_, ttx_get ht, ?_⟩
      walk_at "WK"
      rw [txt_o]
      refine ⟨shp_tk _, shp_sg (by simp), ?_⟩
      rw [eqv_tk, es, decide_eq_false (fun z => by have := (List.cons.inj z).1; omega)]
      walk_at "WK"
      refine ⟨fun z => (nomatch z), fun _ => ?_⟩
      walk_at "WK"
      refine ⟨_, ttx_get ht, ?_⟩
      walk_at "WK"
      rw [txt_b]
      refine ⟨shp_tk _, shp_sg (by simp), ?_⟩
      rw [eqv_tk, es, decide_eq_false (fun z => by have := (List.cons.inj z).1; omega)]
      walk_at "WK"
      refine ⟨fun z => (nomatch z), fun _ => ?_⟩
      walk_at "WK"
      refine ⟨_, ttx_get ht, ?_⟩
      walk_at "WK"
      have hn1 : nN (.dow v r) = 1 + nN r := rfl
      refine ⟨_, rfl, by omega, ?_⟩
      walk_at "WK"
      have hk : tkN (.dow v r) = 1 + tkN r := rfl
      have hdr : dpN (.dow v r) = dpN r := rfl
      refine ⟨tkN r, by omega, q + 1, r, L ++ [.tuple [.str (Str.ofString "do"), .str v.tx, .int (q : Int)]], .val (.py (.int (q : Int))), s4, s5, s6, s7, rfl, ?_, by omega, hd1, by omega, rfl⟩
      rw [List.append_assoc]
      exact hL
    | rep v b r =>
      obtain ⟨ht, htm, hlt, hd1⟩ := drop_tk (t := .op) (r := (toks b ++ .cl v :: toks r) ++ rest) hd
      have hd2 : ts.drop (q + 1) = toks b ++ (.cl v :: (toks r ++ rest)) := by rw [hd1, List.append_assoc]; rfl
      have hd3 := drop_app hd2
      rw [toks_len] at hd3
      obtain ⟨ht2, htm2, hlt2, hd4⟩ := drop_tk hd3
      have hk : tkN (.rep v b r) = 2 + tkN b + tkN r := rfl
      have hdr : dpN (.rep v b r) = max (1 + dpN b) (dpN r) := rfl
      have hn1 : nN (.rep v b r) = 1 + nN r := rfl
      have okv : 2 ≤ v ∧ v ≤ 10 ^ 30 := h2 _ htm2
      have ht33 := tk_len (h2 _ htm2)
      have l3 : (Tk.cl v).tx.length ≤ sizeLine := by unfold Tk.tx; rw [sg_len]; exact Nat.le_trans ht33.2 (by rw [sizeLine_eq]; decide)
      have e' : (Tk.cl v).tx.cps.toList = 41 :: TL.numL v := rfl
      refine ⟨fun q1 => ?_, fun q1 => absurd (of_decide_eq_false q1) (fun z => z (by omega))⟩
      walk_at "WK"
      refine ⟨_, ttx_get ht, ?_⟩
      walk_at "WK"
      refine ⟨shp_tk _, by decide +kernel, ?_⟩
      rw [mem_ic, show isIC .op = false from rfl]
      walk_at "WK"
      refine ⟨fun _ => ?_, fun z => (nomatch z)⟩
      walk_at "WK"
      refine ⟨_, ttx_get ht, ?_⟩
      walk_at "WK"
      refine ⟨Nat.le_trans (show Tk.op.tx.length ≤ 1 by decide +kernel) (by omega), 40, at0 rfl, ?_⟩
      walk_at "WK"
      refine ⟨by decide +kernel, by decide +kernel, ?_⟩
      rw [show (PyData.str { cps := #[40] }).eqv (PyData.str (Str.ofString ")")) = false by decide +kernel]
      walk_at "WK"
      refine ⟨fun _ => ?_, fun z => (nomatch z)⟩
      walk_at "WK"
      refine ⟨_, ttx_get ht, ?_⟩
      walk_at "WK"
      refine ⟨fun _ => ?_, fun z => (nomatch z)⟩
      walk_at "WK"
      refine ⟨(ts, q + 1, b), rfl, ⟨h1, h2, by show dpN b < dp; omega, .cl v :: (toks r ++ rest), hd2, trivial⟩, ?_⟩
      rintro d m ⟨rfl, rfl⟩
      refine ⟨rfl, ?_⟩
      walk_at "WK"
      refine ⟨_, ttx_get ht2, ?_⟩
      walk_at "WK"
      refine ⟨l3, ?_⟩
      rw [cut_tail _ e', ← txN_sg]
      walk_at "WK"
      refine cw_intS (one_mk ⟨_, _, rfl, txN_int (show v < 10 ^ 200 by omega), Nat.le_trans (txN_le (k := 31) (by decide) (show v < 10 ^ 31 by omega)) (by decide), ?_⟩)
      walk_at "WK"
      refine ⟨_, rfl, by omega, ?_⟩
      walk_at "WK"
      refine nf_end (r' := r) (q' := q + 2 + tkN b) (by omega) (by push_cast; omega) ?_ (by omega) (by rw [show q + 2 + tkN b = q + 1 + tkN b + 1 by omega]; exact hd4) (by omega)
      rw [List.append_assoc]
      exact hL
    | cho a b r =>
      obtain ⟨ht, htm, hlt, hd1⟩ := drop_tk (t := .bo) (r := (toks a ++ .bi :: (toks b ++ .bc :: toks r)) ++ rest) hd
      have hd2 : ts.drop (q + 1) = toks a ++ (.bi :: (toks b ++ (.bc :: (toks r ++ rest)))) := by rw [hd1, List.append_assoc, List.cons_append, List.append_assoc]; rfl
      have hd3 := drop_app hd2
      rw [toks_len] at hd3
      obtain ⟨ht2, htm2, hlt2, hd4⟩ := drop_tk hd3
      have hd5 := drop_app hd4
      rw [toks_len] at hd5
      obtain ⟨ht3, htm3, hlt3, hd6⟩ := drop_tk hd5
      have hk : tkN (.cho a b r) = 3 + tkN a + tkN b + tkN r := rfl
      have hdr : dpN (.cho a b r) = max (1 + max (dpN a) (dpN b)) (dpN r) := rfl
      have hn1 : nN (.cho a b r) = 1 + nN r := rfl
      refine ⟨fun q1 => ?_, fun q1 => absurd (of_decide_eq_false q1) (fun z => z (by omega))⟩
      walk_at "WK"
      refine ⟨_, ttx_get ht, ?_⟩
      walk_at "WK"
      refine ⟨shp_tk _, by decide +kernel, ?_⟩
      rw [mem_ic, show isIC .bo = false from rfl]
      walk_at "WK"
      refine ⟨fun _ => ?_, fun z => (nomatch z)⟩
      walk_at "WK"
      refine ⟨_, ttx_get ht, ?_⟩
      walk_at "WK"
      refine ⟨Nat.le_trans (show Tk.bo.tx.length ≤ 1 by decide +kernel) (by omega), 123, at0 rfl, ?_⟩
      walk_at "WK"
      refine ⟨by decide +kernel, by decide +kernel, ?_⟩
      rw [show (PyData.str { cps := #[123] }).eqv (PyData.str (Str.ofString ")")) = false by decide +kernel]
      walk_at "WK"
      refine ⟨fun _ => ?_, fun z => (nomatch z)⟩
      walk_at "WK"
      refine ⟨_, ttx_get ht, ?_⟩
      walk_at "WK"
      refine ⟨fun z => (nomatch z), fun _ => ?_⟩
      walk_at "WK"
      refine ⟨_, ttx_get ht, ?_⟩
      walk_at "WK"
      refine ⟨fun _ => ?_, fun z => (nomatch z)⟩
      walk_at "WK"
      refine ⟨(ts, q + 1, a), rfl, ⟨h1, h2, by show dpN a < dp; omega, .bi :: (toks b ++ (.bc :: (toks r ++ rest))), hd2, trivial⟩, ?_⟩
      rintro d m ⟨rfl, rfl⟩
      refine ⟨rfl, ?_⟩
      walk_at "WK"
      refine ⟨(ts, q + 1 + tkN a + 1, b), rfl, ⟨h1, h2, by show dpN b < dp; omega, .bc :: (toks r ++ rest), hd4, trivial⟩, ?_⟩
      rintro d m ⟨rfl, rfl⟩
      refine ⟨rfl, ?_⟩
      walk_at "WK"
      refine ⟨_, rfl, by omega, ?_⟩
      walk_at "WK"
      refine nf_end (r' := r) (q' := q + 3 + tkN a + tkN b) (by omega) (by push_cast; omega) ?_ (by omega) (by rw [show q + 3 + tkN a + tkN b = q + 1 + tkN a + 1 + tkN b + 1 by omega]; exact hd6) (by omega)
      rw [List.append_assoc, show q + 1 + tkN a + 1 = q + 2 + tkN a by omega]
      exact hL
  rintro e1 ⟨s3, s4, s5, s6, s7, rfl⟩
  walk_at "WK"
  first | exact ⟨rfl, rfl⟩ | rfl
end
end Wx

/-! ### part U6 -/
set_option Elab.async false
set_option linter.all false
set_option maxRecDepth 100000
set_option maxHeartbeats 1000000
set_option autoImplicit false
namespace Wx
open PySem L2
theorem dat_at {l r : List PyData} {i : Nat} {x : PyData} {d : D} (hd : (l.map D.py)[i]? = some d) (h : l.drop i = x :: r) : d = .py x ∧ l.drop (i + 1) = r := by
  have e1 : l[i]? = some x := by
    have := congrArg (fun l : List PyData => l[0]?) h
    rw [List.getElem?_drop] at this
    exact this
  have hp := (List.getElem?_eq_some_iff.mp e1).1
  rw [List.getElem?_map, e1] at hd
  rw [List.drop_eq_getElem_cons hp] at h
  exact ⟨(Option.some.inj hd).symm, (List.cons.inj h).2⟩
theorem dat_no {l : List PyData} {i : Nat} {d : D} (hd : (l.map D.py)[i]? = some d) (h : l.drop i = []) : False := by
  have h1 := (List.getElem?_eq_some_iff.mp hd).1
  rw [List.length_map] at h1
  have := List.drop_eq_nil_iff.mp h
  omega
/-! ## the number of steps -/
def lnN : Ns → Nat
  | .nil => 0
  | .dow _ r => 1 + lnN r
  | .rep n b r => n * lnN b + lnN r
  | .cho _ _ r => lnN r
theorem lnN_le : ∀ {ns : Ns} {D : Nat}, wfN ns → dpN ns ≤ D → lnN ns ≤ tkN ns * (10 ^ 30) ^ D
  | .nil, D, _, _ => Nat.zero_le _
  | .dow w r, D, hw, h => by
    have ih := lnN_le (ns := r) hw.2 h
    have h1 : 1 ≤ (10 ^ 30) ^ D := Nat.pow_pos (by decide)
    show 1 + lnN r ≤ (1 + tkN r) * (10 ^ 30) ^ D
    rw [Nat.add_mul, Nat.one_mul]
    omega
  | .rep n b r, D, hw, h => by
    have hd : max (1 + dpN b) (dpN r) ≤ D := h
    have ih := lnN_le (ns := r) hw.2.2 (show dpN r ≤ D by omega)
    obtain ⟨E, rfl⟩ : ∃ E, D = E + 1 := ⟨D - 1, by omega⟩
    have ib := lnN_le (ns := b) hw.2.1 (show dpN b ≤ E by omega)
    have hn := hw.1.2.1
    show n * lnN b + lnN r ≤ (2 + tkN b + tkN r) * (10 ^ 30) ^ (E + 1)
    have k1 : n * lnN b ≤ 10 ^ 30 * (tkN b * (10 ^ 30) ^ E) := Nat.mul_le_mul hn ib
    have k2 : ∀ X : Nat, X * (tkN b * X ^ E) = tkN b * X ^ (E + 1) := fun X => by
      rw [Nat.pow_succ, Nat.mul_left_comm, Nat.mul_comm X (X ^ E)]
    have k2 := k2 (10 ^ 30)
    rw [Nat.add_mul, Nat.add_mul]
    omega
  | .cho a b r, D, hw, h => by
    have hd : max (1 + max (dpN a) (dpN b)) (dpN r) ≤ D := h
    have ih := lnN_le (ns := r) hw.2.2.2 (show dpN r ≤ D by omega)
    show lnN r ≤ (3 + tkN a + tkN b + tkN r) * (10 ^ 30) ^ D
    rw [Nat.add_mul]
    omega
theorem lnN_lt {ns : Ns} (hw : wfN ns) (hd : dpN ns ≤ 12) (ht : tkN ns ≤ 1000) : lnN ns < 2 ^ 1300 :=
  Nat.lt_of_le_of_lt (Nat.le_trans (lnN_le hw hd) (Nat.mul_le_mul_right _ ht)) (by decide +kernel)
/-! ## whether nodes are plain -/
def plL : Ns → List Bool
  | .nil => []
  | .dow _ r => true :: plL r
  | .rep _ b r => plainN b :: plL r
  | .cho _ _ r => false :: plL r
theorem plL_all : ∀ ns : Ns, (plL ns).all id = plainN ns
  | .nil => rfl
  | .dow _ r => by show (true && (plL r).all id) = plainN r; rw [plL_all r]; rfl
  | .rep _ b r => by show (plainN b && (plL r).all id) = _; rw [plL_all r]; rfl
  | .cho _ _ r => rfl
section
variable {P : Program} {w : World} {K : PySem.W.Frag} {mg : Str → Option Value} {base : Heap} {f C : Addr} {fd : FuncData} {dp : Nat}
abbrev sp_nodes_in (K : PySem.W.Frag) : Sp := SpX (ι := Ns) K (fun ns => [.py (.list (ttx (toks ns)))]) (fun ns _ => wfN ns ∧ dpN ns ≤ 12 ∧ tkN ns ≤ 1000) fun ns n d m => d = .py (.tuple (dat 0 ns)) ∧ m = n
theorem ln_nodes_in (ns : Ns) : [D.py (.list (ttx (toks ns)))].length = 1 := rfl
theorem nm_nodes_in (ns : Ns) : [D.py (.list (ttx (toks ns)))].all D.nm = true := rfl
theorem sc_nodes_in : FnScope ["words"] ["words"] (defScope (top 48)) := ⟨rfl, rfl, rfl, by decide +kernel, rfl, by decide +kernel, by decide +kernel⟩
theorem ok_nodes_in (F : FnP K "nodes_in" "nodes_in" (top 48) f fd) (S_nodes_from : Std P w K mg base 14 "nodes_from" ["words", "place"] (sp_nodes_from K 13)) : FnOk P w K mg base CX0 15 f fd ["words"] (sp_nodes_in K) := by
  refine F.ok sc_nodes_in (sx_len ln_nodes_in) (fun cdv A outer s H vs Q E hr h => ?_)
  have nd := sc_nodes_in.nd
  refine ⟨_, PSs.nox (pss_one (ps_ret (pe_ix (ixK (K := K) rfl) (pe_std S_nodes_from hr rfl (pa_cons (pv 0) (pa_cons (pe_int) (pa_nil)))) (pe_int) (fun _ _ => rfl)))), ?_⟩
  refine body_x nm_nodes_in ?_ vs H Q E h
  clear h hr
  intro c n x hK hp
  (subst hK)
  try clear S_nodes_from F
  obtain ⟨h1, h2, h3⟩ : wfN x ∧ dpN x ≤ 12 ∧ tkN x ≤ 1000 := hp
  walk_at "WK"
  refine ⟨(toks x, 0, x), rfl, ⟨by rw [toks_len]; exact h3, wf_toks h1, by show dpN x < 13; omega, [], (List.append_nil _).symm, trivial⟩, ?_⟩
  rintro d m ⟨rfl, rfl⟩
  refine ⟨rfl, ?_⟩
  walk_at "WK"
  refine ⟨_, rfl, ?_⟩
  exact ⟨rfl, rfl⟩
abbrev sp_joined_measure (K : PySem.W.Frag) : Sp := SpX (ι := (Int × Int × Int) × (Int × Int × Int)) K (fun x => [.py (t3 x.1), .py (t3 x.2)]) (fun _ _ => True) fun x n d m => d = .py (t3 (joinM x.1 x.2)) ∧ m = n
theorem ln_joined_measure (x : (Int × Int × Int) × (Int × Int × Int)) : [D.py (t3 x.1), .py (t3 x.2)].length = 2 := rfl
theorem nm_joined_measure (x : (Int × Int × Int) × (Int × Int × Int)) : [D.py (t3 x.1), .py (t3 x.2)].all D.nm = true := rfl
theorem sc_joined_measure : FnScope ["measure", "other", "need", "rise", "growth"] ["measure", "other"] (defScope (top 49)) := ⟨rfl, rfl, rfl, by decide +kernel, rfl, by decide +kernel, by decide +kernel⟩
theorem ok_joined_measure (F : FnP K "joined_measure" "joined_measure" (top 49) f fd) (g_max : mg "max" = none) : FnOk P w K mg base CX0 1 f fd ["measure", "other"] (sp_joined_measure K) := by
  refine F.ok sc_joined_measure (sx_len ln_joined_measure) (fun cdv A outer s H vs Q E hr h => ?_)
  have nd := sc_joined_measure.nd
  refine ⟨_, PSs.nox (pss_cons (ps_asg (pv 0) (gtupK (K := K) (n := 3) rfl rfl (pgs_cons (pg_name (i := 2) nd rfl (Or.inl rfl)) (pgs_cons (pg_name (i := 3) nd rfl (Or.inl rfl)) (pgs_cons (pg_name (i := 4) nd rfl (Or.inl rfl)) (pgs_nil))))))
 (pss_one (ps_ret (pe_tup (pa_cons (pe_callB (callMAX2 rfl) rfl g_max bt_max (pa_cons (pv 2) (pa_cons (pe_op op_sub (pe_ix (ixK (K := K) rfl) (pv 1) (pe_int) (fun _ _ => rfl)) (pv 4)) (pa_nil)))) (pa_cons (pe_callB (callMAX2 rfl) rfl g_max bt_max (pa_cons (pv 3) (pa_cons (pe_op (addK (K := K) rfl) (pv 4) (pe_ix (ixK (K := K) rfl) (pv 1) (pe_int) (fun _ _ => rfl))) (pa_nil)))) (pa_cons (pe_op (addK (K := K) rfl) (pv 4) (pe_ix (ixK (K := K) rfl) (pv 1) (pe_int) (fun _ _ => rfl))) (pa_nil)))))))), ?_⟩
  refine body_x nm_joined_measure ?_ vs H Q E h
  clear h hr
  intro c n x hK hp
  (subst hK)
  try clear g_max F
  obtain ⟨⟨a1, a2, a3⟩, ⟨b1, b2, b3⟩⟩ := x
  dsimp only
  refine ws_seq (ws_asg [2, 3, 4] ?_)
  walk_at "WK"
  refine wg_trip rfl ⟨_, _, _, rfl, wg_name ⟨rfl, wg_name ⟨rfl, wg_name ⟨rfl, ?_⟩ (Nat.le_of_ble_eq_true rfl) (by decide)⟩ (Nat.le_of_ble_eq_true rfl) (by decide)⟩ (Nat.le_of_ble_eq_true rfl) (by decide)⟩
  walk_at "WK"
  refine ⟨_, rfl, ?_⟩
  walk_at "WK"
  refine ⟨_, rfl, ?_⟩
  walk_at "WK"
  refine ⟨_, rfl, ?_⟩
  walk_at "WK"
  first | exact ⟨rfl, rfl⟩ | rfl
abbrev sp_repeated_measure (K : PySem.W.Frag) : Sp := SpX (ι := (Int × Int × Int) × Int) K (fun x => [.py (t3 x.1), .py (.int x.2)]) (fun x _ => 1 ≤ x.2 ∧ x.2 ≤ 10 ^ 30 ∧ -100 ≤ x.1.2.2 ∧ x.1.2.2 ≤ 100) fun x n d m => d = .py (t3 (repM x.1 x.2)) ∧ m = n
theorem ln_repeated_measure (x : (Int × Int × Int) × Int) : [D.py (t3 x.1), .py (.int x.2)].length = 2 := rfl
theorem nm_repeated_measure (x : (Int × Int × Int) × Int) : [D.py (t3 x.1), .py (.int x.2)].all D.nm = true := rfl
theorem sc_repeated_measure : FnScope ["measure", "number", "need", "rise", "growth"] ["measure", "number"] (defScope (top 50)) := ⟨rfl, rfl, rfl, by decide +kernel, rfl, by decide +kernel, by decide +kernel⟩
theorem ok_repeated_measure (F : FnP K "repeated_measure" "repeated_measure" (top 50) f fd) (g_max : mg "max" = none) : FnOk P w K mg base CX0 1 f fd ["measure", "number"] (sp_repeated_measure K) := by
  refine F.ok sc_repeated_measure (sx_len ln_repeated_measure) (fun cdv A outer s H vs Q E hr h => ?_)
  have nd := sc_repeated_measure.nd
  refine ⟨_, PSs.nox (pss_cons (ps_asg (pv 0) (gtupK (K := K) (n := 3) rfl rfl (pgs_cons (pg_name (i := 2) nd rfl (Or.inl rfl)) (pgs_cons (pg_name (i := 3) nd rfl (Or.inl rfl)) (pgs_cons (pg_name (i := 4) nd rfl (Or.inl rfl)) (pgs_nil))))))
 (pss_one (ps_ret (pe_tup (pa_cons (pe_op (addK (K := K) rfl) (pv 2) (pe_op opMUL (pe_op op_sub (pv 1) (pe_int)) (pe_callB (callMAX2 rfl) rfl g_max bt_max (pa_cons (pe_int) (pa_cons (pe_un un_neg (pv 4)) (pa_nil)))))) (pa_cons (pe_op (addK (K := K) rfl) (pv 3) (pe_op opMUL (pe_op op_sub (pv 1) (pe_int)) (pe_callB (callMAX2 rfl) rfl g_max bt_max (pa_cons (pe_int) (pa_cons (pv 4) (pa_nil)))))) (pa_cons (pe_op opMUL (pv 1) (pv 4)) (pa_nil)))))))), ?_⟩
  refine body_x nm_repeated_measure ?_ vs H Q E h
  clear h hr
  intro c n x hK hp
  (subst hK)
  try clear g_max F
  obtain ⟨⟨a1, a2, a3⟩, k⟩ := x
  obtain ⟨h1, h2, h3, h4⟩ : 1 ≤ k ∧ k ≤ 10 ^ 30 ∧ -100 ≤ a3 ∧ a3 ≤ 100 := hp
  dsimp only
  refine ws_seq (ws_asg [2, 3, 4] ?_)
  walk_at "WK"
  refine wg_trip rfl ⟨_, _, _, rfl, wg_name ⟨rfl, wg_name ⟨rfl, wg_name ⟨rfl, ?_⟩ (Nat.le_of_ble_eq_true rfl) (by decide)⟩ (Nat.le_of_ble_eq_true rfl) (by decide)⟩ (Nat.le_of_ble_eq_true rfl) (by decide)⟩
  walk_at "WK"
  refine rw_mI (wide_mul (a := 200) (b := 200) (by omega) (by dsimp only; split <;> omega) (by decide) (by decide) (by decide)) ?_
  walk_at "WK"
  refine rw_mI (wide_mul (a := 200) (b := 200) (by omega) (by dsimp only; split <;> omega) (by decide) (by decide) (by decide)) ?_
  walk_at "WK"
  refine rw_mI (wide_mul (a := 200) (b := 200) (by omega) (by dsimp only; omega) (by decide) (by decide) (by decide)) ?_
  walk_at "WK"
  first | exact ⟨rfl, rfl⟩ | rfl
end
end Wx

/-! ### part U7 -/
set_option Elab.async false
set_option linter.all false
set_option maxRecDepth 100000
set_option maxHeartbeats 1000000
set_option autoImplicit false
namespace Wx
open PySem L2

section
variable {P : Program} {w : World} {K : PySem.W.Frag} {mg : Str → Option Value} {base : Heap} {f C : Addr} {fd : FuncData} {dp : Nat}
abbrev sp_measure_in (K : PySem.W.Frag) (dp : Nat) : Sp := SpX (ι := Nat × Ns) K (fun x => [.py (.tuple (dat x.1 x.2))]) (fun x _ => wfN x.2 ∧ dpN x.2 < dp) fun x n d m => d = .py (t3 (mN x.2)) ∧ m = n
theorem ln_measure_in (x : Nat × Ns) : [D.py (.tuple (dat x.1 x.2))].length = 1 := rfl
theorem nm_measure_in (x : Nat × Ns) : [D.py (.tuple (dat x.1 x.2))].all D.nm = true := rfl
theorem sc_measure_in : FnScope ["nodes", "found", "node", "first", "second"] ["nodes"] (defScope (top 51)) := ⟨rfl, rfl, rfl, by decide +kernel, rfl, by decide +kernel, by decide +kernel⟩
theorem ok_measure_in (F : FnP K "measure_in" "measure_in" (top 51) f fd) (S_joined_measure : Std P w K mg base 1 "joined_measure" ["measure", "other"] (sp_joined_measure K)) (S_measure_of : Std P w K mg base 1 "measure_of" ["word"] (sp_measure_of K)) (S_repeated_measure : Std P w K mg base 1 "repeated_measure" ["measure", "number"] (sp_repeated_measure K)) (S_measure_in : Std P w K mg base (dp + 1) "measure_in" ["nodes"] (sp_measure_in K dp)) (g_max : mg "max" = none) : FnOk P w K mg base CX0 (dp + 1 + 1) f fd ["nodes"] (sp_measure_in K (dp + 1)) := by
  refine F.ok sc_measure_in (sx_len ln_measure_in) (fun cdv A outer s H vs Q E hr h => ?_)
  have nd := sc_measure_in.nd
  refine ⟨_, PSs.nox (pss_cons (ps_set (i := 1) nd rfl (Or.inl rfl) (pe_tup (pa_cons (pe_int) (pa_cons (pe_int) (pa_cons (pe_int) (pa_nil))))))
 (pss_cons (ps_for PassesOwn.never rfl (itupK (K := K) rfl (pv 0)) (pg_name (i := 2) nd rfl (Or.inl rfl)) (pss_one (ps_if (pt_cmpR (eqK (K := K) rfl (room64 hr)) (pe_ix (ixK (K := K) rfl) (pv 2) (pe_int) (fun _ _ => rfl)) (pe_str) (nomark _)) (pss_one (ps_set (i := 1) nd rfl (Or.inl rfl) (pe_std S_joined_measure (hr.mono (by omega)) rfl (pa_cons (pv 1) (pa_cons (pe_std S_measure_of (hr.mono (by omega)) rfl (pa_cons (pe_ix (ixK (K := K) rfl) (pv 2) (pe_int) (fun _ _ => rfl)) (pa_nil))) (pa_nil)))))) (pss_one (ps_if (pt_cmpR (eqK (K := K) rfl (room64 hr)) (pe_ix (ixK (K := K) rfl) (pv 2) (pe_int) (fun _ _ => rfl)) (pe_str) (nomark _)) (pss_one (ps_set (i := 1) nd rfl (Or.inl rfl) (pe_std S_joined_measure (hr.mono (by omega)) rfl (pa_cons (pv 1) (pa_cons (pe_std S_repeated_measure (hr.mono (by omega)) rfl (pa_cons (pe_std S_measure_in hr rfl (pa_cons (pe_ix (ixK (K := K) rfl) (pv 2) (pe_int) (fun _ _ => rfl)) (pa_nil))) (pa_cons (pe_ix (ixK (K := K) rfl) (pv 2) (pe_int) (fun _ _ => rfl)) (pa_nil)))) (pa_nil)))))) (pss_cons (ps_par (i := 3) (j := 4) rfl nd rfl rfl (by decide) rfl rfl (pa_cons (pe_std S_measure_in hr rfl (pa_cons (pe_ix (ixK (K := K) rfl) (pv 2) (pe_int) (fun _ _ => rfl)) (pa_nil))) (pa_cons (pe_std S_measure_in hr rfl (pa_cons (pe_ix (ixK (K := K) rfl) (pv 2) (pe_int) (fun _ _ => rfl)) (pa_nil))) (pa_nil))) rfl)
 (pss_one (ps_set (i := 1) nd rfl (Or.inl rfl) (pe_std S_joined_measure (hr.mono (by omega)) rfl (pa_cons (pv 1) (pa_cons (pe_tup (pa_cons (pe_callB (callMAX2 rfl) rfl g_max bt_max (pa_cons (pe_ix (ixK (K := K) rfl) (pv 3) (pe_int) (fun _ _ => rfl)) (pa_cons (pe_ix (ixK (K := K) rfl) (pv 4) (pe_int) (fun _ _ => rfl)) (pa_nil)))) (pa_cons (pe_callB (callMAX2 rfl) rfl g_max bt_max (pa_cons (pe_ix (ixK (K := K) rfl) (pv 3) (pe_int) (fun _ _ => rfl)) (pa_cons (pe_ix (ixK (K := K) rfl) (pv 4) (pe_int) (fun _ _ => rfl)) (pa_nil)))) (pa_cons (pe_ix (ixK (K := K) rfl) (pv 3) (pe_int) (fun _ _ => rfl)) (pa_nil))))) (pa_nil))))))))))))
 (pss_one (ps_ret (pv 1))))), ?_⟩
  refine body_x nm_measure_in ?_ vs H Q E h
  clear h hr
  intro c n x hK hp
  (subst hK)
  try clear S_joined_measure S_measure_of S_repeated_measure S_measure_in g_max F
  obtain ⟨p, ns⟩ := x
  obtain ⟨h1, h2⟩ : wfN ns ∧ dpN ns < dp + 1 := hp
  dsimp only
  walk_at "WK"
  refine ws_for [2] (wi_tup rfl ?_)
  walk_at "WK"
  refine ⟨fun i e1 => ∃ q ms mm s2 s3 s4, (dat p ns).drop i = dat q ms ∧ mA mm ms = mN ns ∧ wfN ms ∧ dpN ms ≤ dpN ns ∧ e1 = ⟨[.val (.py (.tuple (dat p ns))), .val (.py (t3 mm)), s2, s3, s4], n⟩, ⟨p, ns, (0, 0, 0), .emp, .emp, .emp, rfl, rfl, h1, Nat.le_refl _, rfl⟩, ?_, ?_⟩
  · rintro i d e1 hd ⟨q, ms, mm, s2, s3, s4, hq, hm, hw, hdp, rfl⟩
    cases ms with
    | nil => exact (dat_no hd hq).elim
    | dow v r =>
      obtain ⟨rfl, hq'⟩ := dat_at hd hq
      refine wg_name ⟨rfl, ?_⟩ (Nat.le_of_ble_eq_true rfl) (by decide)
      walk_at "WK"
      refine ⟨_, rfl, ?_⟩
      walk_at "WK"
      refine ⟨fun _ => ?_, fun z => absurd z (by decide)⟩
      walk_at "WK"
      refine ⟨_, rfl, ?_⟩
      walk_at "WK"
      refine ⟨v, rfl, hw.1, ?_⟩
      rintro d m ⟨rfl, rfl⟩
      refine ⟨rfl, ?_⟩
      walk_at "WK"
      refine ⟨(mm, mW v), rfl, trivial, ?_⟩
      rintro d m ⟨rfl, rfl⟩
      refine ⟨rfl, ?_⟩
      walk_at "WK"
      exact ⟨q + 1, r, joinM mm (mW v), _, _, _, hq', hm, hw.2, hdp, rfl⟩
    | rep k b r =>
      obtain ⟨rfl, hq'⟩ := dat_at hd hq
      obtain ⟨⟨k1, k2, k3, k4, k5⟩, wb, wr⟩ := hw
      have hdr : dpN (.rep k b r) = max (1 + dpN b) (dpN r) := rfl
      refine wg_name ⟨rfl, ?_⟩ (Nat.le_of_ble_eq_true rfl) (by decide)
      walk_at "WK"
      refine ⟨_, rfl, ?_⟩
      walk_at "WK"
      refine ⟨fun z => absurd z (by decide), fun _ => ?_⟩
      walk_at "WK"
      refine ⟨_, rfl, ?_⟩
      walk_at "WK"
      refine ⟨fun _ => ?_, fun z => absurd z (by decide)⟩
      walk_at "WK"
      refine ⟨_, rfl, ?_⟩
      walk_at "WK"
      refine ⟨(q + 1, b), rfl, ⟨wb, by show dpN b < dp; omega⟩, ?_⟩
      rintro d m ⟨rfl, rfl⟩
      refine ⟨rfl, ?_⟩
      walk_at "WK"
      refine ⟨_, rfl, ?_⟩
      walk_at "WK"
      have hg := gN_le wb k4
      refine ⟨(mN b, (k : Int)), rfl, ⟨by show (1 : Int) ≤ k; omega, by show (k : Int) ≤ 10 ^ 30; omega, by show -100 ≤ (mN b).2.2; rw [gN_m]; omega, by show (mN b).2.2 ≤ 100; rw [gN_m]; omega⟩, ?_⟩
      rintro d m ⟨rfl, rfl⟩
      refine ⟨rfl, ?_⟩
      walk_at "WK"
      refine ⟨(mm, repM (mN b) k), rfl, trivial, ?_⟩
      rintro d m ⟨rfl, rfl⟩
      refine ⟨rfl, ?_⟩
      walk_at "WK"
      exact ⟨q + 2 + tkN b, r, joinM mm (repM (mN b) k), _, _, _, hq', hm, wr, by omega, rfl⟩
    | cho a b r =>
      obtain ⟨rfl, hq'⟩ := dat_at hd hq
      obtain ⟨k1, wa, wb, wr⟩ := hw
      have hdr : dpN (.cho a b r) = max (1 + max (dpN a) (dpN b)) (dpN r) := rfl
      refine wg_name ⟨rfl, ?_⟩ (Nat.le_of_ble_eq_true rfl) (by decide)
      walk_at "WK"
      refine ⟨_, rfl, ?_⟩
      walk_at "WK"
      refine ⟨fun z => absurd z (by decide), fun _ => ?_⟩
      walk_at "WK"
      refine ⟨_, rfl, ?_⟩
      walk_at "WK"
      refine ⟨fun z => absurd z (by decide), fun _ => ?_⟩
      walk_at "WK"
      refine ⟨_, rfl, ?_⟩
      walk_at "WK"
      refine ⟨(q + 1, a), rfl, ⟨wa, by show dpN a < dp; omega⟩, ?_⟩
      rintro d m ⟨rfl, rfl⟩
      refine ⟨rfl, ?_⟩
      walk_at "WK"
      refine ⟨_, rfl, ?_⟩
      walk_at "WK"
      refine ⟨(q + 2 + tkN a, b), rfl, ⟨wb, by show dpN b < dp; omega⟩, ?_⟩
      rintro d m ⟨rfl, rfl⟩
      refine ⟨rfl, ?_⟩
      walk_at "WK"
      refine ⟨_, rfl, ?_⟩
      walk_at "WK"
      refine ⟨_, rfl, ?_⟩
      walk_at "WK"
      refine ⟨_, rfl, ?_⟩
      walk_at "WK"
      refine ⟨_, rfl, ?_⟩
      walk_at "WK"
      refine ⟨_, rfl, ?_⟩
      walk_at "WK"
      refine ⟨(mm, choM (mN a) (mN b)), rfl, trivial, ?_⟩
      rintro d m ⟨rfl, rfl⟩
      refine ⟨rfl, ?_⟩
      walk_at "WK"
      exact ⟨q + 3 + tkN a + tkN b, r, joinM mm (choM (mN a) (mN b)), _, _, _, hq', hm, wr, by omega, rfl⟩
  · rintro e1 ⟨q, ms, mm, s2, s3, s4, hq, hm, hw, hdp, rfl⟩
    rw [List.length_map, List.drop_of_length_le (Nat.le_refl _)] at hq
    have hn : ms = .nil := by cases ms <;> first | rfl | cases hq
    subst hn
    have hm' : mm = mN ns := hm
    subst hm'
    walk_at "WK"
    first | exact ⟨rfl, rfl⟩ | rfl
abbrev sp_length_in (K : PySem.W.Frag) (dp : Nat) : Sp := SpX (ι := Nat × Ns) K (fun x => [.py (.tuple (dat x.1 x.2))]) (fun x _ => wfN x.2 ∧ plainN x.2 = true ∧ dpN x.2 ≤ 12 ∧ tkN x.2 ≤ 1000 ∧ dpN x.2 < dp) fun x n d m => d = .py (.int (lnN x.2 : Int)) ∧ m = n
theorem ln_length_in (x : Nat × Ns) : [D.py (.tuple (dat x.1 x.2))].length = 1 := rfl
theorem nm_length_in (x : Nat × Ns) : [D.py (.tuple (dat x.1 x.2))].all D.nm = true := rfl
theorem sc_length_in : FnScope ["nodes", "found", "node"] ["nodes"] (defScope (top 53)) := ⟨rfl, rfl, rfl, by decide +kernel, rfl, by decide +kernel, by decide +kernel⟩
theorem ok_length_in (F : FnP K "length_in" "length_in" (top 53) f fd) (S_length_in : Std P w K mg base (dp + 1) "length_in" ["nodes"] (sp_length_in K dp)) : FnOk P w K mg base CX0 (dp + 1 + 1) f fd ["nodes"] (sp_length_in K (dp + 1)) := by
  refine F.ok sc_length_in (sx_len ln_length_in) (fun cdv A outer s H vs Q E hr h => ?_)
  have nd := sc_length_in.nd
  refine ⟨_, PSs.nox (pss_cons (ps_set (i := 1) nd rfl (Or.inl rfl) (pe_int))
 (pss_cons (ps_for PassesOwn.never rfl (itupK (K := K) rfl (pv 0)) (pg_name (i := 2) nd rfl (Or.inl rfl)) (pss_one (ps_set (i := 1) nd rfl (Or.inl rfl) (pe_op (addK (K := K) rfl) (pv 1) (pe_ifExp (pt_cmpR (eqK (K := K) rfl (room64 hr)) (pe_ix (ixK (K := K) rfl) (pv 2) (pe_int) (fun _ _ => rfl)) (pe_str) (nomark _)) (pe_int) (pe_op opMUL (pe_ix (ixK (K := K) rfl) (pv 2) (pe_int) (fun _ _ => rfl)) (pe_std S_length_in hr rfl (pa_cons (pe_ix (ixK (K := K) rfl) (pv 2) (pe_int) (fun _ _ => rfl)) (pa_nil)))))))))
 (pss_one (ps_ret (pv 1))))), ?_⟩
  refine body_x nm_length_in ?_ vs H Q E h
  clear h hr
  intro c n x hK hp
  (subst hK)
  try clear S_length_in F
  obtain ⟨p, ns⟩ := x
  obtain ⟨h1, h0, h3, h4, h2⟩ : wfN ns ∧ plainN ns = true ∧ dpN ns ≤ 12 ∧ tkN ns ≤ 1000 ∧ dpN ns < dp + 1 := hp
  dsimp only
  walk_at "WK"
  refine ws_for [2] (wi_tup rfl ?_)
  walk_at "WK"
  refine ⟨fun i e1 => ∃ q ms mm s2, (dat p ns).drop i = dat q ms ∧ mm + lnN ms = lnN ns ∧ wfN ms ∧ plainN ms = true ∧ dpN ms ≤ dpN ns ∧ tkN ms ≤ 1000 ∧ e1 = ⟨[.val (.py (.tuple (dat p ns))), .val (.py (.int (mm : Nat))), s2], n⟩, ⟨p, ns, 0, .emp, rfl, Nat.zero_add _, h1, h0, Nat.le_refl _, h4, rfl⟩, ?_, ?_⟩
  · rintro i d e1 hd ⟨q, ms, mm, s2, hq, hm, hw, hpl, hdp, htk, rfl⟩
    cases ms with
    | nil => exact (dat_no hd hq).elim
    | dow v r =>
      obtain ⟨rfl, hq'⟩ := dat_at hd hq
      have htr : tkN (.dow v r) = 1 + tkN r := rfl
      have hlr : lnN (.dow v r) = 1 + lnN r := rfl
      refine wg_name ⟨rfl, ?_⟩ (Nat.le_of_ble_eq_true rfl) (by decide)
      walk_at "WK"
      refine ⟨_, rfl, ?_⟩
      walk_at "WK"
      refine ⟨fun _ => ?_, fun z => absurd z (by decide)⟩
      walk_at "WK"
      exact ⟨q + 1, r, mm + 1, _, hq', by omega, hw.2, hpl, hdp, by omega, rfl⟩
    | rep k b r =>
      obtain ⟨rfl, hq'⟩ := dat_at hd hq
      obtain ⟨⟨k1, k2, k3, k4, k5⟩, wb, wr⟩ := hw
      have hdr : dpN (.rep k b r) = max (1 + dpN b) (dpN r) := rfl
      have htr : tkN (.rep k b r) = 2 + tkN b + tkN r := rfl
      have hlr : lnN (.rep k b r) = k * lnN b + lnN r := rfl
      have hpb : plainN b = true ∧ plainN r = true := by
        have : (plainN b && plainN r) = true := hpl
        simpa using this
      refine wg_name ⟨rfl, ?_⟩ (Nat.le_of_ble_eq_true rfl) (by decide)
      walk_at "WK"
      refine ⟨_, rfl, ?_⟩
      walk_at "WK"
      refine ⟨fun z => absurd z (by decide), fun _ => ?_⟩
      walk_at "WK"
      refine ⟨_, rfl, ?_⟩
      walk_at "WK"
      refine ⟨_, rfl, ?_⟩
      walk_at "WK"
      refine ⟨(q + 1, b), rfl, ⟨wb, hpb.1, by show dpN b ≤ 12; omega, by show tkN b ≤ 1000; omega, by show dpN b < dp; omega⟩, ?_⟩
      rintro d m ⟨rfl, rfl⟩
      refine ⟨rfl, ?_⟩
      have hlt := lnN_lt wb (by omega) (by omega)
      walk_at "WK"
      refine rw_mI (wide_mul (a := 200) (b := 1300) (by omega) (by rw [Int.natAbs_natCast]; exact hlt) (by decide) (by decide) (by decide)) ?_
      walk_at "WK"
      exact ⟨q + 2 + tkN b, r, mm + k * lnN b, _, hq', by omega, wr, hpb.2, by omega, by omega, by rw [Int.natCast_add, Int.natCast_mul]; rfl⟩
    | cho a b r => cases hpl
  · rintro e1 ⟨q, ms, mm, s2, hq, hm, hw, hpl, hdp, htk, rfl⟩
    rw [List.length_map, List.drop_of_length_le (Nat.le_refl _)] at hq
    have hn : ms = .nil := by cases ms <;> first | rfl | cases hq
    subst hn
    have hm' : mm = lnN ns := hm
    subst hm'
    walk_at "WK"
    first | exact ⟨rfl, rfl⟩ | rfl
abbrev sp_is_plain_in (K : PySem.W.Frag) (dp : Nat) : Sp := SpX (ι := Nat × Ns) K (fun x => [.py (.tuple (dat x.1 x.2))]) (fun x _ => tkN x.2 ≤ 1000 ∧ dpN x.2 < dp) fun x n d m => d = .py (.bool (plainN x.2)) ∧ m = n
theorem ln_is_plain_in (x : Nat × Ns) : [D.py (.tuple (dat x.1 x.2))].length = 1 := rfl
theorem nm_is_plain_in (x : Nat × Ns) : [D.py (.tuple (dat x.1 x.2))].all D.nm = true := rfl
theorem sc_is_plain_in : FnScope ["nodes", "node"] ["nodes"] (defScope (top 52)) := ⟨rfl, rfl, rfl, by decide +kernel, rfl, by decide +kernel, by decide +kernel⟩
theorem ok_is_plain_in (F : FnP K "is_plain_in" "is_plain_in" (top 52) f fd) (g_all : mg "all" = none) (S_is_plain_in : Std P w K mg base (dp + 1) "is_plain_in" ["nodes"] (sp_is_plain_in K dp)) : FnOk P w K mg base CX0 (dp + 1 + 1) f fd ["nodes"] (sp_is_plain_in K (dp + 1)) := by
  refine F.ok sc_is_plain_in (sx_len ln_is_plain_in) (fun cdv A outer s H vs Q E hr h => ?_)
  have nd := sc_is_plain_in.nd
  refine ⟨_, PSs.nox (pss_one (ps_ret (pe_callB (allK (K := K) rfl rfl) rfl g_all bt_all (pa_cons (pe_lc (own := [("node", 1)]) rfl nd (itupK (K := K) rfl (pv 0)) (blkOk_by (N := ["nodes", "node"]) (sc := (defScope (top 52))) (by decide +kernel)) (fun _ _ _ _ _ => pg_name (i := 1) nd rfl (Or.inl rfl) (.inr rfl)) (fun _ _ _ _ _ => pts_nil) (fun _ _ _ _ _ => pe_or (pe_cmpR (eqK (K := K) rfl (room64 hr)) (pe_ix (ixK (K := K) rfl) (pv 1) (pe_int) (fun _ _ => rfl)) (pe_str) (nomark _)) (pe_one (pe_and (pe_cmpR (eqK (K := K) rfl (room64 hr)) (pe_ix (ixK (K := K) rfl) (pv 1) (pe_int) (fun _ _ => rfl)) (pe_str) (nomark _)) (pe_one (pe_std S_is_plain_in hr rfl (pa_cons (pe_ix (ixK (K := K) rfl) (pv 1) (pe_int) (fun _ _ => rfl)) (pa_nil)))))))) (pa_nil))))), ?_⟩
  refine body_x nm_is_plain_in ?_ vs H Q E h
  clear h hr
  intro c n x hK hp
  (subst hK)
  try clear g_all S_is_plain_in F
  obtain ⟨p, ns⟩ := x
  obtain ⟨h1, h2⟩ : tkN ns ≤ 1000 ∧ dpN ns < dp + 1 := hp
  dsimp only
  walk_at "WK"
  refine wp_new (wn_lc (fun v hv => ?_) (wi_tup rfl ?_))
  · have : v = 1 := by simpa using hv
    subst this
    exact Nat.le_of_ble_eq_true rfl
  walk_at "WK"
  refine ⟨fun i acc m' => m' = n ∧ ∃ q ms L, (dat p ns).drop i = dat q ms ∧ L ++ plL ms = plL ns ∧ tkN ms ≤ 1000 ∧ dpN ms ≤ dpN ns ∧ acc = L.map PyData.bool, ⟨rfl, p, ns, [], rfl, rfl, h1, Nat.le_refl _, rfl⟩, by rw [List.length_map, dat_len]; have := nN_le ns; omega, ?_, ?_⟩
  · rintro i acc m' d hd ⟨rfl, q, ms, L, hq, hL, htk, hdp, rfl⟩
    cases ms with
    | nil => exact (dat_no hd hq).elim
    | dow v r =>
      obtain ⟨rfl, hq'⟩ := dat_at hd hq
      have htr : tkN (.dow v r) = 1 + tkN r := rfl
      refine wg_name ⟨rfl, ?_⟩ (Nat.le_of_ble_eq_true rfl) (by decide)
      refine wt_yes ⟨fun _ => ?_, fun z => nomatch z⟩
      walk_at "WK"
      refine ⟨_, rfl, ?_⟩
      walk_at "WK"
      refine ⟨fun z => absurd z (by decide), fun _ => ?_⟩
      exact ⟨rfl, q + 1, r, L ++ [true], hq', by rw [List.append_assoc]; exact hL, by omega, hdp, by rw [List.map_append]; rfl⟩
    | rep k b r =>
      obtain ⟨rfl, hq'⟩ := dat_at hd hq
      have hdr : dpN (.rep k b r) = max (1 + dpN b) (dpN r) := rfl
      have htr : tkN (.rep k b r) = 2 + tkN b + tkN r := rfl
      refine wg_name ⟨rfl, ?_⟩ (Nat.le_of_ble_eq_true rfl) (by decide)
      refine wt_yes ⟨fun _ => ?_, fun z => nomatch z⟩
      walk_at "WK"
      refine ⟨_, rfl, ?_⟩
      walk_at "WK"
      refine ⟨fun _ => ?_, fun z => absurd z (by decide)⟩
      walk_at "WK"
      refine ⟨_, rfl, ?_⟩
      walk_at "WK"
      refine ⟨fun _ => ?_, fun z => absurd z (by decide)⟩
      walk_at "WK"
      refine ⟨_, rfl, ?_⟩
      walk_at "WK"
      refine ⟨(q + 1, b), rfl, ⟨by show tkN b ≤ 1000; omega, by show dpN b < dp; omega⟩, ?_⟩
      rintro d m ⟨rfl, rfl⟩
      refine ⟨rfl, ?_⟩
      walk_at "WK"
      exact ⟨q + 2 + tkN b, r, L ++ [plainN b], hq', by rw [List.append_assoc]; exact hL, by omega, by omega, by rw [List.map_append]; rfl⟩
    | cho a b r =>
      obtain ⟨rfl, hq'⟩ := dat_at hd hq
      have hdr : dpN (.cho a b r) = max (1 + max (dpN a) (dpN b)) (dpN r) := rfl
      have htr : tkN (.cho a b r) = 3 + tkN a + tkN b + tkN r := rfl
      refine wg_name ⟨rfl, ?_⟩ (Nat.le_of_ble_eq_true rfl) (by decide)
      refine wt_yes ⟨fun _ => ?_, fun z => nomatch z⟩
      walk_at "WK"
      refine ⟨_, rfl, ?_⟩
      walk_at "WK"
      refine ⟨fun _ => ?_, fun z => absurd z (by decide)⟩
      walk_at "WK"
      refine ⟨_, rfl, ?_⟩
      walk_at "WK"
      refine ⟨fun z => absurd z (by decide), fun _ => ?_⟩
      exact ⟨rfl, q + 3 + tkN a + tkN b, r, L ++ [false], hq', by rw [List.append_assoc]; exact hL, by omega, by omega, by rw [List.map_append]; rfl⟩
  rintro acc m' ⟨rfl, q, ms, L, hq, hL, htk, hdp, rfl⟩
  rw [List.length_map, List.drop_of_length_le (Nat.le_refl _)] at hq
  have hn : ms = .nil := by cases ms <;> first | rfl | cases hq
  subst hn
  have hL' : L = plL ns := by rw [← hL]; exact (List.append_nil L).symm
  subst hL'
  walk_at "WK"
  refine cw_all rfl (one_mk (ls_py ⟨_, rfl, ?_⟩))
  dsimp only
  rw [plL_all]
  exact ⟨rfl, rfl⟩
end
end Wx

/-! ### part U8 -/
set_option Elab.async false
set_option linter.all false
set_option maxRecDepth 100000
set_option maxHeartbeats 1000000
set_option autoImplicit false
namespace Wx
open PySem L2
def isCC : Tk → Bool
  | .cl _ => true
  | .bc => true
  | _ => false
theorem mem_cc {t : Tk} {c : Nat} {r : List Nat} (e : t.sg = c :: r) : Mem (.str ⟨#[c]⟩) [.str (Str.ofString ")"), .str (Str.ofString "}")] = isCC t := by
  have key : ∀ a : Nat, (PyData.eqv (.str (sg [a])) (.str ⟨#[c]⟩)) = decide (c = a) := fun a => by
    rw [show (⟨#[c]⟩ : Str) = sg [c] from rfl, eqv_strD, decide_eq_decide]
    exact ⟨fun z => (List.cons.inj (sg_inj z)).1.symm, fun z => by rw [z]⟩
  rw [txt_e, txt_f]
  unfold Mem
  simp only [List.any_cons, List.any_nil, key, Bool.or_false]
  obtain ⟨c', r', e', k⟩ := tk_cons t
  rw [e] at e'
  obtain ⟨rfl, rfl⟩ := List.cons.inj e'
  cases t with
  | op => obtain ⟨rfl, rfl⟩ := k; rfl
  | bo => obtain ⟨rfl, rfl⟩ := k; rfl
  | bi => obtain ⟨rfl, rfl⟩ := k; rfl
  | bc => obtain ⟨rfl, rfl⟩ := k; rfl
  | cl n => obtain ⟨rfl, rfl⟩ := k; rfl
  | w v =>
    dsimp only at k
    rw [decide_eq_false (by omega), decide_eq_false (by omega)]
    rfl
def bI (b : Bool) : Int := if b then 1 else 0
def opF : List Tk → Int → Int → Int
  | [], _, f => f
  | t :: r, h, f => opF r (h + bI (isOB t) - bI (isCC t)) (mxI f (h + bI (isOB t) - bI (isCC t)))
section
variable {P : Program} {w : World} {K : PySem.W.Frag} {mg : Str → Option Value} {base : Heap} {f C : Addr} {fd : FuncData}
abbrev sp_open_in (K : PySem.W.Frag) : Sp := SpX (ι := List Tk) K (fun ws => [.py (.list (ttx ws))]) (fun ws _ => ∀ w ∈ ws, okTk w) fun ws n d m => d = .py (.int (opF ws 0 0)) ∧ m = n
theorem ln_open_in (ws : List Tk) : [D.py (.list (ttx ws))].length = 1 := rfl
theorem nm_open_in (ws : List Tk) : [D.py (.list (ttx ws))].all D.nm = true := rfl
theorem sc_open_in : FnScope ["words", "here", "found", "word"] ["words"] (defScope (top 54)) := ⟨rfl, rfl, rfl, by decide +kernel, rfl, by decide +kernel, by decide +kernel⟩
theorem ok_open_in (F : FnP K "open_in" "open_in" (top 54) f fd) (g_max : mg "max" = none) (g_int : mg "int" = none) : FnOk P w K mg base CX0 1 f fd ["words"] (sp_open_in K) := by
  refine F.ok sc_open_in (sx_len ln_open_in) (fun cdv A outer s H vs Q E hr h => ?_)
  have nd := sc_open_in.nd
  refine ⟨_, PSs.nox (pss_cons (ps_set (i := 1) nd rfl (Or.inl rfl) (pe_int))
 (pss_cons (ps_set (i := 2) nd rfl (Or.inl rfl) (pe_int))
 (pss_cons (ps_for PassesOwn.never rfl (ilistK (K := K) rfl (pv 0)) (pg_name (i := 3) nd rfl (Or.inl rfl)) (pss_cons (ps_set (i := 1) nd rfl (Or.inl rfl) (pe_op op_sub (pe_op (addK (K := K) rfl) (pv 1) (pe_callTy callINT1 rfl g_int bt_int (pa_cons (pe_cmpR (inK (K := K) rfl (room65 hr)) (pv 3) (pe_tup (pa_cons (pe_str) (pa_cons (pe_str) (pa_nil)))) (by rfl)) (pa_nil)))) (pe_callTy callINT1 rfl g_int bt_int (pa_cons (pe_cmpR (inK (K := K) rfl (room65 hr)) (pe_ix (ixK (K := K) rfl) (pv 3) (pe_int) (fun _ _ => rfl)) (pe_tup (pa_cons (pe_str) (pa_cons (pe_str) (pa_nil)))) (by rfl)) (pa_nil)))))
 (pss_one (ps_set (i := 2) nd rfl (Or.inl rfl) (pe_callB (callMAX2 rfl) rfl g_max bt_max (pa_cons (pv 2) (pa_cons (pv 1) (pa_nil))))))))
 (pss_one (ps_ret (pv 2)))))), ?_⟩
  refine body_x nm_open_in ?_ vs H Q E h
  clear h hr
  intro c n x hK hp
  (subst hK)
  try clear g_max g_int F
  have h2 : ∀ w ∈ x, okTk w := hp
  walk_at "WK"
  refine ws_for [3] (wi_list rfl ?_)
  walk_at "WK"
  refine ⟨fun i e1 => ∃ h ff s3, opF (x.drop i) h ff = opF x 0 0 ∧ e1 = ⟨[.val (.py (.list (ttx x))), .val (.py (.int h)), .val (.py (.int ff)), s3], n⟩, ⟨0, 0, .emp, rfl, rfl⟩, ?_, ?_⟩
  · rintro i d e1 hd ⟨h, ff, s3, ho, rfl⟩
    obtain ⟨t, ht, htm, rfl⟩ := ttx_item hd
    have hi : i < x.length := (List.getElem?_eq_some_iff.mp ht).1
    have ed : x.drop i = t :: x.drop (i + 1) := by
      rw [List.drop_eq_getElem_cons hi]
      congr 1
      exact (List.getElem?_eq_some_iff.mp ht).2
    rw [ed] at ho
    obtain ⟨ch, r, ew, _⟩ := tk_cons t
    have hw33 := tk_len (h2 t htm)
    have l3 : t.tx.length ≤ sizeLine := by unfold Tk.tx; rw [sg_len]; exact Nat.le_trans hw33.2 (by rw [sizeLine_eq]; decide)
    have hs := tk_sign (t := t) (x := ch) (by rw [ew]; exact List.mem_cons_self)
    refine wg_name ⟨rfl, ?_⟩ (Nat.le_of_ble_eq_true rfl) (by decide)
    walk_at "WK"
    refine ⟨shp_tk t, by decide +kernel, ?_⟩
    rw [mem_ob]
    walk_at "WK"
    refine ⟨l3, ch, at0 ew, ?_⟩
    walk_at "WK"
    refine ⟨shp_sg (l := [ch]) (by simp; omega), by decide +kernel, ?_⟩
    rw [mem_cc ew]
    walk_at "WK"
    exact ⟨_, _, _, ho, rfl⟩
  · rintro e1 ⟨h, ff, s3, ho, rfl⟩
    rw [List.length_map, ttx_len, List.drop_of_length_le (Nat.le_refl _)] at ho
    have ho' : ff = opF x 0 0 := ho
    subst ho'
    walk_at "WK"
    first | exact ⟨rfl, rfl⟩ | rfl
end
end Wx

/-! ### part T9 -/
set_option Elab.async false
set_option linter.all false
set_option maxRecDepth 100000
set_option maxHeartbeats 1000000
set_option autoImplicit false
/-! An __init__ that stores its attributes one by one. -/
namespace Wx
open PySem L2
structure Wzf (c : Cy) (t : TS) (e : En) (x C dx : Addr) (n : Nat) (f0 fs : List (Str × PyData)) : Prop where
  run : ∀ (σ : St) (A : Addr → Prop) (H : Hp) (w0 : List (Str × V)), Ok c A H σ e → (∀ a, ¬ ownA σ e.sl a) → H x = some (.ins C dx w0) → FsR c.K c.S0 H w0 f0 → ∀ Dn : Ends, (∀ (σ' : St) (H' : Hp) (ws : List (Str × V)), H' x = some (.ins C dx ws) → FsR c.K c.S0 H' ws fs → (∀ a o, c.k ≠ some a → a ≠ x → H a = some o → H' a = some o) → Good c n H' → Dn.nx σ' H') → t Dn σ H
section
variable {c : Cy} {sl : List Slo} {nn n : Nat} {x C dx : Addr} {f0 fs : List (Str × PyData)} {t u : TS} {te : TE} {e : En}
theorem wzf_of (h : Wzf c t e x C dx n [] fs) : Wz c t e x C dx n fs := ⟨fun σ A H o no hH Dn fin => h.run σ A H [] o no hH True.intro Dn fin⟩
theorem wzf_seq (hk : c.k ≠ some x) (h : Ws c t ⟨sl, nn⟩ ⟨fun e1 => noOwn e1.sl = true ∧ Wzf c u e1 x C dx n f0 fs, fun _ _ => False, fun _ => False, fun _ => False⟩) : Wzf c (tSeq t u) ⟨sl, nn⟩ x C dx n f0 fs :=
  ⟨fun σ A H w0 o no hH hf Dn fin => h.run σ A H o { Dn with nx := u Dn } (fun σ1 A1 H1 e1 q kp w o1 => by
    have kS : Kept c.S0 H H1 := kp.mono fun a z => z.elim (c.hk a) fun y => (no a y).elim
    exact q.2.run σ1 A1 H1 w0 o1 (no_own q.1) (kp x _ (fun z => z.elim hk (no x)) hH) (hf.keep kS) Dn fun σ2 H2 ws r1 r2 r3 r4 => fin σ2 H2 ws r1 r2 (fun a u n1 n2 z => r3 a u n1 n2 (kp a u (fun y => y.elim n1 (no a)) z)) r4)
    (fun _ _ _ _ z _ _ _ => z.elim) (fun _ _ _ _ z _ _ _ => z.elim) (fun _ _ _ _ z _ _ _ => z.elim)⟩
theorem Ok.updS {A : Addr → Prop} {H : Hp} {σ : St} {w w' : List (Str × V)} (o : Ok c A H σ e) (no : ∀ a, ¬ ownA σ e.sl a) (hx : c.S0 x) (hk : c.k ≠ some x) (hH : H x = some (.ins C dx w)) : Ok c A (upd H x (.ins C dx w')) σ e := by
  have xA : A x := o.sub x (.inl hx)
  have kA : Kept A H (upd H x (.ins C dx w')) := fun b u nb z => by rw [upd_ne fun y => nb (by rw [y]; exact xA)]; exact z
  have ne : ∀ {b : Addr}, ¬ A b → b ≠ x := fun nb y => nb (by rw [y]; exact xA)
  refine ⟨o.len, ⟨fun b z => ?_, fun b z => ?_⟩, o.sub, fun b z => ?_, fun i d z => ?_, fun i w z => ?_, o.sep⟩
  · by_cases q : b = x
    · rw [q, upd_same]; exact fun y => nomatch y
    · rw [upd_ne q]; exact o.good.al b z
  · rw [upd_ne fun q => hk (by rw [← q]; exact z)]; exact o.good.kl b z
  · by_cases q : b = x
    · rw [q, upd_same]; exact fun y => nomatch y
    · rw [upd_ne q]; exact o.al b z
  · obtain ⟨nm, v, h1, h2⟩ := o.val i d z
    refine ⟨nm, v, h1, ?_⟩
    cases d with
    | py p => exact Da.keep kA h2
    | mine w => cases nm
    | dct ds => obtain ⟨a, kvs, q, m, r, t⟩ := h2; exact ⟨a, kvs, q, m, by rw [upd_ne (ne m)]; exact r, t.keep kA⟩
    | dcl ds => obtain ⟨a, kvs, od, q, m, r, t⟩ := h2; exact ⟨a, kvs, od, q, m, by rw [upd_ne (ne m)]; exact r, t.keep kA⟩
    | brw ds =>
      obtain ⟨a, xs, q, m, s, r, t⟩ := h2
      exact ⟨a, xs, q, m, s, by rw [upd_ne fun y => by rw [y, hH] at r; cases r]; exact r, t.keep kA⟩
    | ins C fs => obtain ⟨a, dx, vs, q, m, r, t⟩ := h2; exact ⟨a, dx, vs, q, m, by rw [upd_ne (ne m)]; exact r, t.keep kA⟩
    | atom w => exact h2
    | kln => exact h2
    | lsx => obtain ⟨a, xs, q, m, r⟩ := h2; exact ⟨a, xs, q, m, by rw [upd_ne (ne m)]; exact r⟩
    | obj φ => obtain ⟨a, xs, q, ⟨m, fφ⟩, r⟩ := h2; exact ⟨a, xs, q, ⟨m, fφ⟩, by rw [upd_ne (ne m)]; exact r⟩
  · obtain ⟨a, h1, _, _⟩ := o.own i w z
    exact absurd ⟨i, w, z, h1⟩ (no a)
theorem FsR.names {K : PySem.W.Frag} {S : Addr → Prop} {H : Hp} : ∀ {ws : List (Str × V)} {fs : List (Str × PyData)}, FsR K S H ws fs → ws.map Prod.fst = fs.map Prod.fst
  | [], [], _ => rfl
  | (a, v) :: r, (b, d) :: s, ⟨e, _, t⟩ => by rw [List.map_cons, List.map_cons, FsR.names t]; dsimp only; rw [e]
  | [], _ :: _, h => h.elim
  | _ :: _, [], h => h.elim
theorem FsR.snoc {K : PySem.W.Frag} {S : Addr → Prop} {H : Hp} {f : Str} {v : V} {p : PyData} (y : Da K S H v p) : ∀ {ws : List (Str × V)} {fs : List (Str × PyData)}, FsR K S H ws fs → FsR K S H (ws ++ [(f, v)]) (fs ++ [(f, p)])
  | [], [], _ => ⟨rfl, y, True.intro⟩
  | (a, u) :: r, (b, d) :: s, ⟨e, h, t⟩ => ⟨e, h, FsR.snoc y t⟩
  | [], _ :: _, h => h.elim
  | _ :: _, [], h => h.elim
theorem putF_snoc {f : Str} {v : V} : ∀ {ws : List (Str × V)}, f ∉ ws.map Prod.fst → putF f v ws = ws ++ [(f, v)]
  | [], _ => rfl
  | (a, u) :: r, h => by
    have ne : ¬ a = f := fun q => h (by rw [List.map_cons, q]; exact List.mem_cons_self)
    show putF f v ((a, u) :: r) = (a, u) :: (r ++ [(f, v)])
    rw [putF, if_neg ne, putF_snoc fun q => h (by rw [List.map_cons]; exact List.mem_cons_of_mem _ q)]
theorem FsR.len {K : PySem.W.Frag} {S : Addr → Prop} {H : Hp} {ws : List (Str × V)} {fs : List (Str × PyData)} (h : FsR K S H ws fs) : ws.length = fs.length := by
  have := congrArg List.length h.names
  rwa [List.length_map, List.length_map] at this
theorem wzf_att {K : PySem.W.Frag} {f : Str} (hK : K = c.K) (hk : c.k ≠ some x) (hx : c.S0 x) (h0 : sl[0]? = some (.val (.atom (.ref x)))) (cl : Cls c.K C) (n1 : NoAttr c.K C f) (hf : f ∉ f0.map Prod.fst) (hl : f0.length < 900) (hno : noOwn sl = true)
    (h : Wp c te ⟨sl, nn⟩ fun d m => ∃ p, d = .py p ∧ Wzf c u ⟨sl, m⟩ x C dx n (f0 ++ [(f, p)]) fs) : Wzf c (tSeq (tAsg te (gAtt K (tVar 0) f)) u) ⟨sl, nn⟩ x C dx n f0 fs := ⟨fun σ A H w0 o no hH hr Dn fin => by
  subst hK
  obtain ⟨_, v0, s0, e0⟩ := o.val 0 _ h0
  have e0' : v0 = .ref x := e0
  subst e0'
  refine h.run σ A H o _ fun v H1 d m pr e1 g1 xd => ?_
  obtain ⟨p, rfl, pr⟩ := pr
  have hx1 : H1 x = some (.ins C dx w0) := e1 x _ hk hH
  have xA : A x := o.sub x (.inl hx)
  have nm : f ∉ w0.map Prod.fst := by rw [hr.names]; exact hf
  refine ⟨.ref x, s0, x, C, dx, w0, rfl, hx1, cl, n1, by rw [hr.len]; omega, ?_⟩
  rw [putF_snoc nm]
  have kS1 : Kept c.S0 H H1 := fun a u na z => e1 a u (fun y => na (c.hk a y)) z
  have kS2 : Kept c.S0 H1 (upd H1 x (.ins C dx (w0 ++ [(f, v)]))) := fun b u nb z => by rw [upd_ne fun y => nb (by rw [y]; exact hx)]; exact z
  have y : Da c.K c.S0 H1 v p := Da.less (fun a z => o.sub a (.inl z)) xd
  have o2 := (o.keep e1 g1).updS (w' := w0 ++ [(f, v)]) no hx hk hx1
  exact pr.run σ A _ (w0 ++ [(f, v)]) o2 no upd_same (FsR.keep kS2 (FsR.snoc y (hr.keep kS1))) Dn fun σ2 H2 ws r1 r2 r3 r4 => fin σ2 H2 ws r1 r2 (fun a u q1 q2 z => r3 a u q1 q2 (by rw [upd_ne q2]; exact e1 a u q1 z)) r4⟩
theorem wzf_last {K : PySem.W.Frag} {f : Str} (hK : K = c.K) (hk : c.k ≠ some x) (hx : c.S0 x) (h0 : sl[0]? = some (.val (.atom (.ref x)))) (cl : Cls c.K C) (n1 : NoAttr c.K C f) (hf : f ∉ f0.map Prod.fst) (hl : f0.length < 900)
    (h : Wp c te ⟨sl, nn⟩ fun d m => ∃ p, d = .py p ∧ fs = f0 ++ [(f, p)] ∧ m = n) : Wzf c (tAsg te (gAtt K (tVar 0) f)) ⟨sl, nn⟩ x C dx n f0 fs := ⟨fun σ A H w0 o no hH hr Dn fin => by
  subst hK
  obtain ⟨_, v0, s0, e0⟩ := o.val 0 _ h0
  have e0' : v0 = .ref x := e0
  subst e0'
  refine h.run σ A H o _ fun v H1 d m pr e1 g1 xd => ?_
  obtain ⟨p, rfl, rfl, rfl⟩ := pr
  have hx1 : H1 x = some (.ins C dx w0) := e1 x _ hk hH
  have nm : f ∉ w0.map Prod.fst := by rw [hr.names]; exact hf
  refine ⟨.ref x, s0, x, C, dx, w0, rfl, hx1, cl, n1, by rw [hr.len]; omega, ?_⟩
  rw [putF_snoc nm]
  have kS1 : Kept c.S0 H H1 := fun a u na z => e1 a u (fun y => na (c.hk a y)) z
  have kS2 : Kept c.S0 H1 (upd H1 x (.ins C dx (w0 ++ [(f, v)]))) := fun b u nb z => by rw [upd_ne fun y => nb (by rw [y]; exact hx)]; exact z
  have y : Da c.K c.S0 H1 v p := Da.less (fun a z => o.sub a (.inl z)) xd
  have o2 := (o.keep e1 g1).updS (w' := w0 ++ [(f, v)]) no hx hk hx1
  exact fin σ _ _ upd_same (FsR.keep kS2 (FsR.snoc y (hr.keep kS1))) (fun a u q1 q2 z => by rw [upd_ne q2]; exact e1 a u q1 z) o2.good⟩
end
end Wx

/-! ### part T9b -/
set_option Elab.async false
set_option linter.all false
set_option maxRecDepth 100000
set_option maxHeartbeats 1000000
set_option autoImplicit false
namespace Wx
open PySem L2
section
variable {c : Cy} {sl : List Slo} {nn n : Nat} {x C dx : Addr} {f0 fs : List (Str × PyData)} {t u : TS} {te ta tb : TE} {e : En}
/-- self.f = (a if self.g else b), self.g stored before -/
theorem wzf_attT {K : PySem.W.Frag} {f g : Str} {b : Bool} (hK : K = c.K) (hk : c.k ≠ some x) (hx : c.S0 x) (h0 : sl[0]? = some (.val (.atom (.ref x)))) (cl : Cls c.K C) (n1 : NoAttr c.K C f) (n2 : NoAttr c.K C g) (hf : f ∉ f0.map Prod.fst) (hl : f0.length < 900) (hno : noOwn sl = true) (hg : f0.lookup g = some (.bool b))
    (h : Wp c (if b then ta else tb) ⟨sl, nn⟩ fun d m => ∃ p, d = .py p ∧ Wzf c u ⟨sl, m⟩ x C dx n (f0 ++ [(f, p)]) fs) : Wzf c (tSeq (tAsg (tIf (fun σ H Q => tFld K (tVar 0) g σ H fun x H' => ∃ k, TruV K x H' k ∧ Q k H') ta tb) (gAtt K (tVar 0) f)) u) ⟨sl, nn⟩ x C dx n f0 fs := ⟨fun σ A H w0 o no hH hr Dn fin => by
  have z := (wzf_att (te := if b then ta else tb) hK hk hx h0 cl n1 hf hl hno h).run σ A H w0 o no hH hr Dn fin
  subst hK
  obtain ⟨_, v0, s0, e0⟩ := o.val 0 _ h0
  have e0' : v0 = .ref x := e0
  subst e0'
  obtain ⟨v, lv, y⟩ := hr.look hg
  cases Da.bl_eq y
  refine ⟨.ref x, s0, x, C, dx, w0, .bl b, rfl, hH, cl, n2, lv, b, rfl, ?_⟩
  cases b with
  | true => exact iteT z
  | false => exact iteF z⟩
end
end Wx

/-! ### part U9 -/
set_option Elab.async false
set_option linter.all false
set_option maxRecDepth 100000
set_option maxHeartbeats 1000000
set_option autoImplicit false
namespace Wx
open PySem L2

def stepsD (ns : Ns) : PyData := if plainN ns then .int (lnN ns : Int) else .none
def progF (ns : Ns) : List (Str × PyData) := [("own_text", .str (joinT (toks ns))), ("own_words", .tuple (ttx (toks ns))), ("own_nodes", .tuple (dat 0 ns)), ("own_need", .int (mN ns).1), ("own_rise", .int (mN ns).2.1), ("own_growth", .int (mN ns).2.2), ("own_plain", .bool (plainN ns)), ("own_steps", stepsD ns), ("own_open", .int (opF (toks ns) 0 0))]
def okNs (ns : Ns) : Prop := wfN ns ∧ dpN ns ≤ 12 ∧ tkN ns ≤ 1000 ∧ (mN ns).1 + (mN ns).2.1 ≤ 100
structure PrA (K : PySem.W.Frag) (C : Addr) : Prop where
  cl : Cls K C
  a1 : NoAttr K C "own_text"
  a2 : NoAttr K C "own_words"
  a3 : NoAttr K C "own_nodes"
  a4 : NoAttr K C "own_need"
  a5 : NoAttr K C "own_rise"
  a6 : NoAttr K C "own_growth"
  a7 : NoAttr K C "own_plain"
  a8 : NoAttr K C "own_steps"
  a9 : NoAttr K C "own_open"
section
variable {P : Program} {w : World} {K : PySem.W.Frag} {mg : Str → Option Value} {base : Heap} {f C : Addr} {fd : FuncData}
abbrev si_Program___init__ (K : PySem.W.Frag) (C : Addr) : Sp := SpI (ι := Ns) K C (fun ws => [.py (.str (joinT (toks ws)))]) (fun ws _ => okNs ws) fun ws => progF ws
theorem ln_Program___init__ (ws : Ns) : [D.py (.str (joinT (toks ws)))].length = 1 := rfl
theorem nm_Program___init__ (ws : Ns) : [D.py (.str (joinT (toks ws)))].all D.nm = true := rfl
theorem sc_Program___init__ : FnScope ["self", "text", "words", "wrong", "nodes", "need", "rise", "growth"] ["self", "text"] (defScope (meth 56 0)) := ⟨rfl, rfl, rfl, by decide +kernel, rfl, by decide +kernel, by decide +kernel⟩
theorem ok_Program___init__ (F : FnP K "__init__" "Program.__init__" (meth 56 0) f fd) (g_isinstance : mg "isinstance" = none) (g_str : mg "str" = none) (S_words_of : Std P w K mg base 1 "words_of" ["text"] (sp_words_of K)) (S_first_wrong : Std P w K mg base 4 "first_wrong" ["words", "growths"] (sp_first_wrong K)) (S_nodes_in : Std P w K mg base 15 "nodes_in" ["words"] (sp_nodes_in K)) (S_measure_in : Std P w K mg base 14 "measure_in" ["nodes"] (sp_measure_in K 13)) (i_MOST_HIGH : GInt mg "MOST_HIGH" 100) (g_tuple : mg "tuple" = none) (S_is_plain_in : Std P w K mg base 14 "is_plain_in" ["nodes"] (sp_is_plain_in K 13)) (S_length_in : Std P w K mg base 14 "length_in" ["nodes"] (sp_length_in K 13)) (S_open_in : Std P w K mg base 1 "open_in" ["words"] (sp_open_in K)) (pa : PrA K C) : FnOk P w K mg base CX0 16 f fd ["self", "text"] (si_Program___init__ K C) := by
  refine F.ok sc_Program___init__ (si_len ln_Program___init__) (fun cdv A outer s H vs Q E hr h => ?_)
  have nd := sc_Program___init__.nd
  refine ⟨_, PSs.nox (pss_cons (ps_if (pt_not (truK (K := K) rfl (pe_callB (isiK (K := K) rfl) rfl g_isinstance bt_isinstance (pa_cons (pv 1) (pa_cons (pe_bltn (v := .ty "str") rfl g_str bt_str rfl) pa_nil))) (by intro _; rfl))) (pss_one (ps_never)) (pss_nil))
 (pss_cons (ps_set (i := 2) nd rfl (Or.inl rfl) (pe_std S_words_of (hr.mono (by decide)) rfl (pa_cons (pv 1) (pa_nil))))
 (pss_cons (ps_set (i := 3) nd rfl (Or.inl rfl) (pe_std S_first_wrong (hr.mono (by decide)) rfl (pa_cons (pv 2) (pa_cons (pe_dnewK) (pa_nil)))))
 (pss_cons (ps_if (pt_cmpR opNTN (pv 3) (pe_non) (nomark _)) (pss_one (ps_never)) (pss_nil))
 (pss_cons (ps_set (i := 4) nd rfl (Or.inl rfl) (pe_std S_nodes_in hr rfl (pa_cons (pv 2) (pa_nil))))
 (pss_cons (ps_asg (pe_std S_measure_in (hr.mono (by decide)) rfl (pa_cons (pv 4) (pa_nil))) (gtupK (K := K) (n := 3) rfl rfl (pgs_cons (pg_name (i := 5) nd rfl (Or.inl rfl)) (pgs_cons (pg_name (i := 6) nd rfl (Or.inl rfl)) (pgs_cons (pg_name (i := 7) nd rfl (Or.inl rfl)) (pgs_nil))))))
 (pss_cons (ps_if (pt_cmpR op_gt (pe_op (addK (K := K) rfl) (pv 5) (pv 6)) (pe_gint i_MOST_HIGH rfl) (nomark _)) (pss_one (ps_never)) (pss_nil))
 (pss_cons (ps_asg (pv 1) (pg_att (pv 0)))
 (pss_cons (ps_asg (pe_callTy (tupK (K := K) rfl) rfl g_tuple bt_tuple (pa_cons (pv 2) (pa_nil))) (pg_att (pv 0)))
 (pss_cons (ps_asg (pv 4) (pg_att (pv 0)))
 (pss_cons (ps_asg (pv 5) (pg_att (pv 0)))
 (pss_cons (ps_asg (pv 6) (pg_att (pv 0)))
 (pss_cons (ps_asg (pv 7) (pg_att (pv 0)))
 (pss_cons (ps_asg (pe_std S_is_plain_in (hr.mono (by decide)) rfl (pa_cons (pv 4) (pa_nil))) (pg_att (pv 0)))
 (pss_cons (ps_asg (pe_ifExp (truK (K := K) rfl (pe_fld (pv 0) rfl) (by intro _; rfl)) (pe_std S_length_in (hr.mono (by decide)) rfl (pa_cons (pv 4) (pa_nil))) (pe_non)) (pg_att (pv 0)))
 (pss_one (ps_asg (pe_std S_open_in (hr.mono (by decide)) rfl (pa_cons (pv 2) (pa_nil))) (pg_att (pv 0))))))))))))))))))), ?_⟩
  refine body_i nm_Program___init__ ?_ vs H Q E h
  clear h hr
  intro c n z x dx hK hk hx hp
  (subst hK)
  try clear g_isinstance g_str S_words_of S_first_wrong S_nodes_in S_measure_in i_MOST_HIGH g_tuple S_is_plain_in S_length_in S_open_in F
  obtain ⟨hw, hd, ht, h3⟩ : okNs z := hp
  have h2 := wf_toks hw
  have h1 : (toks z).length ≤ 1000 := by rw [toks_len]; exact ht
  have l33 := joinT_len h2
  refine wzf_of (wzf_seq hk ?_)
  walk_at "WK"
  refine ⟨fun z => (nomatch z), fun _ => ?_⟩
  walk_at "WK"
  refine wzf_seq hk ?_
  walk_at "WK"
  refine ⟨toks z, rfl, ⟨h1, h2⟩, ?_⟩
  rintro d m ⟨rfl, rfl⟩
  refine ⟨rfl, ?_⟩
  walk_at "WK"
  refine wzf_seq hk ?_
  walk_at "WK"
  refine wp_new ?_
  walk_at "WK"
  refine ⟨toks z, rfl, ⟨h1, h2, run_all hw hd⟩, ?_⟩
  rintro d m ⟨rfl, rfl⟩
  refine ⟨rfl, ?_⟩
  walk_at "WK"
  refine wzf_seq hk ?_
  walk_at "WK"
  refine ⟨fun z => (nomatch z), fun _ => ?_⟩
  walk_at "WK"
  refine wzf_seq hk ?_
  walk_at "WK"
  refine ⟨z, rfl, ⟨hw, hd, ht⟩, ?_⟩
  rintro d m ⟨rfl, rfl⟩
  refine ⟨rfl, ?_⟩
  walk_at "WK"
  refine wzf_seq hk (ws_asg [5, 6, 7] ?_)
  walk_at "WK"
  refine ⟨(0, z), rfl, ⟨hw, by show dpN z < 13; omega⟩, ?_⟩
  rintro d m ⟨rfl, rfl⟩
  refine ⟨rfl, ?_⟩
  refine wg_trip rfl ⟨_, _, _, rfl, wg_name ⟨rfl, wg_name ⟨rfl, wg_name ⟨rfl, rfl, ?_⟩ (Nat.le_of_ble_eq_true rfl) (by decide)⟩ (Nat.le_of_ble_eq_true rfl) (by decide)⟩ (Nat.le_of_ble_eq_true rfl) (by decide)⟩
  refine wzf_seq hk ?_
  walk_at "WK"
  refine ⟨fun q => absurd (of_decide_eq_true q) (by dsimp only; omega), fun _ => ?_⟩
  walk_at "WK"
  refine wzf_att rfl hk hx rfl pa.cl pa.a1 (by simp) (Nat.le_of_ble_eq_true rfl) rfl ?_
  walk_at "WK"
  refine ⟨_, rfl, ?_⟩
  refine wzf_att rfl hk hx rfl pa.cl pa.a2 (by simp <;> decide +kernel) (Nat.le_of_ble_eq_true rfl) rfl ?_
  walk_at "WK"
  refine ⟨_, rfl, ?_⟩
  refine wzf_att rfl hk hx rfl pa.cl pa.a3 (by simp <;> decide +kernel) (Nat.le_of_ble_eq_true rfl) rfl ?_
  walk_at "WK"
  refine ⟨_, rfl, ?_⟩
  refine wzf_att rfl hk hx rfl pa.cl pa.a4 (by simp <;> decide +kernel) (Nat.le_of_ble_eq_true rfl) rfl ?_
  walk_at "WK"
  refine ⟨_, rfl, ?_⟩
  refine wzf_att rfl hk hx rfl pa.cl pa.a5 (by simp <;> decide +kernel) (Nat.le_of_ble_eq_true rfl) rfl ?_
  walk_at "WK"
  refine ⟨_, rfl, ?_⟩
  refine wzf_att rfl hk hx rfl pa.cl pa.a6 (by simp <;> decide +kernel) (Nat.le_of_ble_eq_true rfl) rfl ?_
  walk_at "WK"
  refine ⟨_, rfl, ?_⟩
  refine wzf_att rfl hk hx rfl pa.cl pa.a7 (by simp <;> decide +kernel) (Nat.le_of_ble_eq_true rfl) rfl ?_
  walk_at "WK"
  refine ⟨(0, z), rfl, ⟨ht, by show dpN z < 13; omega⟩, ?_⟩
  rintro d m ⟨rfl, rfl⟩
  refine ⟨rfl, _, rfl, ?_⟩
  refine wzf_attT (b := plainN z) rfl hk hx rfl pa.cl pa.a8 pa.a7 (by simp <;> decide +kernel) (Nat.le_of_ble_eq_true rfl) rfl rfl ?_
  refine Wp.mono (Φ := fun d m1 => d = .py (stepsD z) ∧ m1 = m) ?_ ?_
  · cases hpl : plainN z with
    | true =>
      rw [if_pos rfl]
      walk_at "WK"
      refine ⟨(0, z), rfl, ⟨hw, hpl, hd, ht, by show dpN z < 13; omega⟩, ?_⟩
      rintro d m ⟨rfl, rfl⟩
      refine ⟨rfl, ?_⟩
      unfold stepsD
      rw [hpl]
      exact ⟨rfl, rfl⟩
    | false =>
      rw [if_neg (by decide)]
      walk_at "WK"
      unfold stepsD
      rw [hpl]
      exact ⟨rfl, rfl⟩
  rintro d m ⟨rfl, rfl⟩
  refine ⟨_, rfl, ?_⟩
  refine wzf_last rfl hk hx rfl pa.cl pa.a9 (by simp <;> decide +kernel) (Nat.le_of_ble_eq_true rfl) ?_
  walk_at "WK"
  refine ⟨toks z, rfl, h2, ?_⟩
  rintro d m ⟨rfl, rfl⟩
  exact ⟨rfl, _, rfl, rfl, rfl⟩
end
end Wx

/-! ### part Vp -/
set_option Elab.async false
set_option linter.all false
set_option maxRecDepth 100000
set_option maxHeartbeats 1000000
set_option autoImplicit false
/-! The plain law: the cut. -/
namespace Wx
open PySem L2
theorem cut_ok : ∀ {l : List Src} {t : Int}, okE t l → okE (cut t l).1 (cut t l).2
  | [], t, h => h
  | s :: r, t, h => by
    rw [cut]
    split
    · rename_i q
      obtain ⟨h0, h1, h2, h3⟩ := h
      have hs := h3 s List.mem_cons_self
      rw [q.1] at hs
      have hs' : 0 ≤ t - 1 ∧ t - 1 < t := hs
      refine cut_ok ⟨hs'.1, by omega, by rw [List.length_cons] at h2; omega, fun u hu => ?_⟩
      have z := h3 u (List.mem_cons_of_mem _ hu)
      cases u with
      | inp p =>
        have z' : 0 ≤ p ∧ p < t := z
        have ne : p ≠ t - 1 := fun e => q.2 (by rw [q.1, ← e]; exact hu)
        exact ⟨z'.1, by omega⟩
      | lit v => exact z
    · exact h
theorem cut_cut : ∀ (l : List Src) (t : Int), cut (cut t l).1 (cut t l).2 = cut t l
  | [], t => rfl
  | s :: r, t => by
    by_cases q : s = .inp (t - 1) ∧ s ∉ r
    · have e : cut t (s :: r) = cut (t - 1) r := by rw [cut, if_pos q]
      rw [e]
      exact cut_cut r (t - 1)
    · have e : cut t (s :: r) = (t, s :: r) := by rw [cut, if_neg q]
      rw [e, e]
end Wx

/-! ### part Vk -/
set_option Elab.async false
set_option linter.all false
set_option maxRecDepth 100000
set_option maxHeartbeats 1000000
set_option autoImplicit false
namespace Wx
open PySem L2

theorem vl_len {K : PySem.W.Frag} {σ : L2.St} {H : Hp} {ta : TE} {p : Addr} {xs : List V} (a : Vl ta σ H (.ref p)) (h : SqL K H p xs) : Vl (tCB (rLEN K) (tCons ta tNil)) σ H (.int xs.length) := fun Q q => a _ ⟨.ref p, xs.length, rfl, .inl ⟨xs, h, rfl⟩, q⟩
theorem vl_max {σ : L2.St} {H : Hp} {ta tb : TE} {i j : Int} (a : Vl ta σ H (.int i)) (b : Vl tb σ H (.int j)) : Vl (tCB rMAX2 (tCons ta (tCons tb tNil))) σ H (.int (if j > i then j else i)) := fun Q q => a _ (b _ ⟨i, j, rfl, q⟩)
theorem vl_ixl {K : PySem.W.Frag} {σ : L2.St} {H : Hp} {ta tb : TE} {p : Addr} {xs : List V} {i : Int} {v : V} (a : Vl ta σ H (.ref p)) (b : Vl tb σ H (.int i)) (h : SqL K H p xs) (g : atI xs i = some v) : Vl (tOp (rIx K) ta tb) σ H v := vl_op a b fun Q q => .inl ⟨p, xs, i, v, rfl, rfl, h, g, q⟩
section
variable {P : Program} {w : World} {K : PySem.W.Frag} {mg : Str → Option Value} {base : Heap} {f C : Addr} {fd : FuncData}
theorem sc__law_kiln : FnScope ["script", "k", "cell"] ["script", "k"] (defScope (top 84)) := ⟨rfl, rfl, rfl, by decide +kernel, rfl, by decide +kernel, by decide +kernel⟩
theorem ok__law_kiln (F : FnP K "_law_kiln" "_law_kiln" (top 84) f fd) (g_len : mg "len" = none) (g_max : mg "max" = none) : FnOk P w K mg base CX0 1 f fd ["script", "k"] (spKiln K) := by
  refine F.ok sc__law_kiln (fun vs H Q E h => by obtain ⟨a, ns, k, rfl, _⟩ := h; rfl) (fun cdv A outer s H vs Q E hr h => ?_)
  have nd := sc__law_kiln.nd
  refine ⟨_, PSs.nox (pss_cons (ps_set (i := 2) nd rfl (Or.inl rfl) (pe_int))
 (pss_cons (ps_if (pt_cmpR op_lt (pv 1) (pe_callB (lenK (K := K) rfl) rfl g_len PySem.boot_len (pa_cons (pv 0) (pa_nil))) (nomark _)) (pss_one (ps_set (i := 2) nd rfl (Or.inl rfl) (pe_ix (ixK (K := K) rfl) (pv 0) (pv 1) (fun _ _ => rfl)))) (pss_nil))
 (pss_one (ps_ret (pe_lst (pa_cons (pe_callB (callMAX2 rfl) rfl g_max bt_max (pa_cons (pe_int) (pa_cons (pe_op op_sub (pv 2) (pe_op opPOW (pe_int) (pe_int))) (pa_nil)))) (pa_cons (pe_op (addK (K := K) rfl) (pe_op (addK (K := K) rfl) (pe_op op_modN (pv 2) (pe_op (addK (K := K) rfl) (pe_op opPOW (pe_int) (pe_int)) (pe_int))) (pe_op opMUL (pe_int) (pv 1))) (pe_int)) (pa_cons (pe_int) (pa_nil))))))))), ?_⟩
  clear hr
  obtain ⟨a, ns, k, rfl, hS, k0, k1, fin⟩ := h
  have p18 : (10 : Int) ^ (18 : Int).toNat = 10 ^ 18 := by decide +kernel
  have p40 : (10 : Int) ^ (40 : Int).toNat + 121 = 10000000000000000000000000000000000000121 := by decide +kernel
  have last : ∀ v : Int, (tRet (tLst (tCons (tCB rMAX2 (tCons (tC (.int 0)) (tCons (tOp (rI0 fun i j => V.int (i - j)) (tVar 2) (tOp rPOW (tC (.int 10)) (tC (.int 18)))) tNil))) (tCons (tOp (rADD K) (tOp (rADD K) (tOp (rI (fun _ j => j ≠ 0) fun i j => V.int (i.fmod j)) (tVar 2) (tOp (rADD K) (tOp rPOW (tC (.int 10)) (tC (.int 40))) (tC (.int 121)))) (tOp rMUL (tC (.int 90001)) (tVar 1))) (tC (.int 61))) (tCons (tC (.int 0)) tNil))))) { nx := fun _ H' => Q .non H', rt := Q } [some (.ref a), some (.int k), some (.int v)] H := fun v => by
    have a1 := vl_max (σ := [some (V.ref a), some (.int k), some (.int v)]) (H := H) (vl_c (v := .int 0)) (vl_i0 (g := fun i j => V.int (i - j)) (vl_v (i := 2) rfl) (vl_pow (vl_c (v := .int 10)) (vl_c (v := .int 18)) ⟨by decide, by decide, by decide +kernel, by decide⟩))
    have m0 := pos_fmod (i := v) (j := 10000000000000000000000000000000000000121) (by decide)
    have a2 := vl_add (K := K) (σ := [some (V.ref a), some (.int k), some (.int v)]) (H := H) (vl_add (K := K) (vl_i (C := fun _ j => j ≠ 0) (g := fun i j => V.int (i.fmod j)) (vl_v (i := 2) rfl) (vl_add (K := K) (vl_pow (vl_c (v := .int 10)) (vl_c (v := .int 40)) ⟨by decide, by decide, by decide +kernel, by decide⟩) (vl_c (v := .int 121))) (by rw [p40]; decide)) (vl_mul (vl_c (v := .int 90001)) (vl_v (i := 1) rfl) (wide_mul (a := 30) (b := 101) (by decide) (by omega) (by decide) (by decide) (by decide)))) (vl_c (v := .int 61))
    refine a1 _ (a2 _ ⟨by show 3 ≤ sizeLine; decide, fun p hp => ?_⟩)
    refine fin _ _ p (by split <;> omega) ?_ ?_ hp
    · rw [p40]; omega
    · rw [p40]; omega
  refine ts_seq (ts_set vl_c ?_)
  refine ts_seq (ts_if (b := decide (k < ((ns.map V.int).length : Int))) (vl_i0 (g := fun i j => V.bl (decide (i < j))) (vl_v rfl) (vl_len (vl_v rfl) hS)) (fun h1 => ?_) (fun h1 => ?_))
  · have h2 := of_decide_eq_true h1
    rw [List.length_map] at h2
    obtain ⟨j, rfl⟩ := Int.eq_ofNat_of_zero_le k0
    have h3 : j < ns.length := by omega
    exact ts_set (v := .int ns[j]) (vl_ixl (vl_v rfl) (vl_v rfl) hS (atI_nat (by rw [List.getElem?_map, List.getElem?_eq_getElem h3] <;> rfl))) (last _)
  · exact ts_next (last _)
end
end Wx

/-! ### part Vw -/
set_option Elab.async false
set_option linter.all false
set_option maxRecDepth 100000
set_option maxHeartbeats 1000000
set_option autoImplicit false
/-! The plain law of powers: a cell followed back so many times. -/
namespace Wx
open PySem L2
def pw (t : Int) (l : List Src) : Nat → Int → Src
  | 0, d => .inp d
  | n + 1, d => match srcAt t l d with
    | .lit v => .lit v
    | .inp p => pw t l n p
def wk (t : Int) (l : List Src) : Nat → Int → Option Int
  | 0, d => some d
  | n + 1, d => match srcAt t l d with
    | .lit _ => none
    | .inp p => wk t l n p
section
variable {t : Int} {l : List Src}
theorem pw_lit {n : Nat} {d v : Int} (h : srcAt t l d = .lit v) : pw t l (n + 1) d = .lit v := by rw [pw, h]
theorem pw_inp {n : Nat} {d p : Int} (h : srcAt t l d = .inp p) : pw t l (n + 1) d = pw t l n p := by rw [pw, h]
theorem wk_inp {n : Nat} {d p : Int} (h : srcAt t l d = .inp p) : wk t l (n + 1) d = wk t l n p := by rw [wk, h]
theorem pw_add : ∀ {a b : Nat} {d p : Int}, wk t l a d = some p → pw t l (a + b) d = pw t l b p
  | 0, b, d, p, h => by cases h; rw [Nat.zero_add]
  | a + 1, b, d, p, h => by
    cases z : srcAt t l d with
    | lit v => rw [wk, z] at h; cases h
    | inp q =>
      rw [wk_inp z] at h
      rw [Nat.add_right_comm, pw_inp z]
      exact pw_add h
theorem pw_stop : ∀ {a b : Nat} {d v : Int}, pw t l a d = .lit v → pw t l (a + b) d = .lit v
  | 0, b, d, v, h => by cases h
  | a + 1, b, d, v, h => by
    cases z : srcAt t l d with
    | lit u => rw [pw_lit z] at h; rw [Nat.add_right_comm, pw_lit z]; exact h
    | inp q =>
      rw [pw_inp z] at h
      rw [Nat.add_right_comm, pw_inp z]
      exact pw_stop h
theorem wk_add : ∀ {a b : Nat} {d p : Int}, wk t l a d = some p → wk t l (a + b) d = wk t l b p
  | 0, b, d, p, h => by cases h; rw [Nat.zero_add]
  | a + 1, b, d, p, h => by
    cases z : srcAt t l d with
    | lit v => rw [wk, z] at h; cases h
    | inp q =>
      rw [wk_inp z] at h
      rw [Nat.add_right_comm, wk_inp z]
      exact wk_add h
theorem wk_one {d p : Int} (h : srcAt t l d = .inp p) : wk t l 1 d = some p := by rw [wk_inp h]; rfl
theorem wk_next {a : Nat} {d p q : Int} (h : wk t l a d = some p) (z : srcAt t l p = .inp q) : wk t l (a + 1) d = some q := by rw [wk_add h]; exact wk_one z
theorem pw_ring {m : Nat} {d : Int} (h : wk t l m d = some d) : ∀ n : Nat, pw t l n d = pw t l (n % m) d := fun n => by
  induction n using Nat.strongRecOn with
  | ind n ih =>
    by_cases hm : m = 0
    · rw [hm, Nat.mod_zero]
    · by_cases hn : n < m
      · rw [Nat.mod_eq_of_lt hn]
      · have e : n = m + (n - m) := by omega
        rw [e, pw_add h, ih (n - m) (by omega), Nat.add_mod_left]
theorem pw_wk : ∀ {n : Nat} {d p : Int}, wk t l n d = some p → pw t l n d = .inp p := fun {n d p} h => by
  have := pw_add (b := 0) h
  exact this
theorem wk_pw : ∀ {n : Nat} {d p : Int}, pw t l n d = .inp p → wk t l n d = some p
  | 0, d, p, h => by cases h; rfl
  | n + 1, d, p, h => by
    cases z : srcAt t l d with
    | lit v => rw [pw_lit z] at h; cases h
    | inp q => rw [pw_inp z] at h; rw [wk_inp z]; exact wk_pw h
/-- the straight way -/
theorem wk_far : ∀ {k : Nat} {d : Int}, (∀ j : Nat, j < k → (l.length : Int) ≤ d + j * (t - l.length)) → wk t l k d = some (d + k * (t - l.length))
  | 0, d, _ => by simp [wk]
  | k + 1, d, h => by
    have h0 := h 0 (by omega)
    have z : srcAt t l d = .inp (d + t - l.length) := by unfold srcAt; rw [if_neg (by simp at h0; omega)]
    rw [wk_inp z, wk_far (k := k) fun j hj => ?_]
    · congr 1
      have e : ((k + 1 : Nat) : Int) = (k : Int) + 1 := by omega
      rw [e, Int.add_mul]
      omega
    · have := h (j + 1) (by omega)
      have e : ((j + 1 : Nat) : Int) = (j : Int) + 1 := by omega
      rw [e, Int.add_mul] at this
      omega
theorem pw_far {n : Nat} {d : Int} (h : (l.length : Int) ≤ d) (hs : 0 ≤ t - l.length) : pw t l n d = .inp (d + n * (t - l.length)) :=
  pw_wk (wk_far fun j _ => by
    have : 0 ≤ (j : Int) * (t - l.length) := Int.mul_nonneg (by omega) hs
    omega)
/-- the passes down, until it is below -/
theorem down_le {k : Nat} {d : Int} (hs : t - (l.length : Int) < 0) (hk : (k : Int) ≤ (d - l.length) / (0 - (t - l.length)) + 1) : ((k : Int) - 1) * (0 - (t - l.length)) ≤ d - l.length := by
  have hz : 0 < 0 - (t - (l.length : Int)) := by omega
  have h1 : ((k : Int) - 1) * (0 - (t - l.length)) ≤ (d - l.length) / (0 - (t - l.length)) * (0 - (t - l.length)) := Int.mul_le_mul_of_nonneg_right (by omega) (by omega)
  have h2 := Int.ediv_mul_le (d - l.length) (Int.ne_of_gt hz)
  omega
theorem wk_down {k : Nat} {d : Int} (h : (l.length : Int) ≤ d) (hs : t - (l.length : Int) < 0) (hk : (k : Int) ≤ (d - l.length) / (0 - (t - l.length)) + 1) : wk t l k d = some (d + k * (t - l.length)) := wk_far fun j hj => by
  have h1 := down_le hs hk
  have h2 : (j : Int) * (0 - (t - l.length)) ≤ ((k : Int) - 1) * (0 - (t - l.length)) := Int.mul_le_mul_of_nonneg_right (by omega) (by omega)
  have h3 : (j : Int) * (0 - (t - l.length)) = - (j * (t - l.length)) := by rw [Int.zero_sub, Int.mul_neg]
  omega
theorem down_nn {k : Nat} {d : Int} (h0 : 0 ≤ t) (hs : t - (l.length : Int) < 0) (hk : (k : Int) ≤ (d - l.length) / (0 - (t - l.length)) + 1) : 0 ≤ d + k * (t - l.length) ∧ d + k * (t - l.length) ≤ d := by
  have h1 := down_le hs hk
  have h3 : ((k : Int) - 1) * (0 - (t - l.length)) = - (k * (t - l.length)) + (t - l.length) := by
    rw [Int.zero_sub, Int.mul_neg, Int.sub_mul]
    omega
  have h4 : 0 ≤ (k : Int) * (0 - (t - l.length)) := Int.mul_nonneg (by omega) (by omega)
  have h5 : (k : Int) * (0 - (t - l.length)) = - (k * (t - l.length)) := by rw [Int.zero_sub, Int.mul_neg]
  omega
theorem down_pos {d : Int} (h : (l.length : Int) ≤ d) (hs : t - (l.length : Int) < 0) : 0 ≤ (d - l.length) / (0 - (t - l.length)) := Int.ediv_nonneg (by omega) (by omega)
end
theorem src_bound {t d p D : Int} {l : List Src} (o : okE t l) (h0 : 0 ≤ d) (hD : 100 ≤ D) (hd : d ≤ D) (z : srcAt t l d = .inp p) : 0 ≤ p ∧ p ≤ D + 100 := by
  obtain ⟨t0, t1, l1, ls⟩ := o
  unfold srcAt at z
  split at z
  · cases y : l[((l.length : Int) - 1 - d).toNat]? with
    | none => rw [y] at z; cases z; omega
    | some s =>
      rw [y] at z
      have hs := ls s (List.mem_of_getElem? y)
      rw [show s = .inp p from z] at hs
      have hs' : 0 ≤ p ∧ p < t := hs
      omega
  · have := Src.inp.inj z
    omega
theorem pw_bound {t : Int} {l : List Src} (o : okE t l) : ∀ {n : Nat} {d q D : Int}, 0 ≤ d → 100 ≤ D → d ≤ D → pw t l n d = .inp q → 0 ≤ q ∧ q ≤ D + 100 * n
  | 0, d, q, D, h0, hD, hd, h => by cases h; omega
  | n + 1, d, q, D, h0, hD, hd, h => by
    cases z : srcAt t l d with
    | lit v => rw [pw_lit z] at h; cases h
    | inp p =>
      rw [pw_inp z] at h
      have b := src_bound o h0 hD hd z
      have := pw_bound o (D := D + 100) b.1 (by omega) b.2 h
      omega
/-! ## few different places -/
theorem nodup_le : ∀ {n : Nat} {xs : List Int}, xs.Nodup → (∀ x ∈ xs, 0 ≤ x ∧ x < n) → xs.length ≤ n
  | 0, xs, _, h => by
    cases xs with
    | nil => exact Nat.le_refl _
    | cons x r => have := h x List.mem_cons_self; omega
  | n + 1, xs, hn, h => by
    have ih := nodup_le (n := n) (xs := xs.erase (n : Int)) (hn.erase _) fun x hx => by
      have h1 := (List.Nodup.mem_erase_iff hn).mp hx
      have h2 := h x h1.2
      have h3 : x ≠ (n : Int) := h1.1
      omega
    have e := List.length_erase (a := (n : Int)) (l := xs)
    split at e <;> omega
def dN (xs : List (Int × Nat)) : List (Key × PyData) := xs.map fun p => (.inl p.1, .int (p.2 : Int))
theorem dN_none {d : Int} : ∀ {xs : List (Int × Nat)}, valP (dN xs) (.inl d) = none → d ∉ xs.map Prod.fst
  | [], _ => by simp
  | p :: r, h => by
    by_cases e : p.1 = d
    · rw [show dN (p :: r) = (.inl p.1, .int (p.2 : Int)) :: dN r from rfl, valP_pos (by rw [e])] at h
      cases h
    · rw [show dN (p :: r) = (.inl p.1, .int (p.2 : Int)) :: dN r from rfl, valP_neg (fun z => e (Sum.inl.inj z))] at h
      have := dN_none h
      rw [List.map_cons, List.mem_cons]
      exact fun z => z.elim (fun z => e z.symm) this
theorem dN_some {d : Int} {y : PyData} : ∀ {xs : List (Int × Nat)}, valP (dN xs) (.inl d) = some y → ∃ T : Nat, (d, T) ∈ xs ∧ y = .int (T : Int)
  | [], h => by cases h
  | p :: r, h => by
    by_cases e : p.1 = d
    · rw [show dN (p :: r) = (.inl p.1, .int (p.2 : Int)) :: dN r from rfl, valP_pos (by rw [e])] at h
      cases h
      exact ⟨p.2, by rw [← e]; exact List.mem_cons_self, rfl⟩
    · rw [show dN (p :: r) = (.inl p.1, .int (p.2 : Int)) :: dN r from rfl, valP_neg (fun z => e (Sum.inl.inj z))] at h
      obtain ⟨T, h1, h2⟩ := dN_some h
      exact ⟨T, List.mem_cons_of_mem _ h1, h2⟩
theorem dN_put {d : Int} {T : Nat} {xs : List (Int × Nat)} (h : valP (dN xs) (.inl d) = none) : putP (dN xs) (.inl d) (.int (T : Int)) = dN (xs ++ [(d, T)]) := by
  unfold putP
  rw [valP_any, h, if_neg (by simp)]
  unfold dN
  rw [List.map_append]
  rfl
end Wx

/-! ### part Vx -/
set_option Elab.async false
set_option linter.all false
set_option maxRecDepth 100000
set_option maxHeartbeats 1000000
set_option autoImplicit false
/-! The plain law of first times. -/
namespace Wx
open PySem L2
def First (t : Int) (l : List Src) (s : Src) (d : Int) (n : Nat) : Prop := pw t l n d = s ∧ ∀ m, m < n → pw t l m d ≠ s
def FirstO (t : Int) (l : List Src) (s : Src) (d : Int) : Option Nat → Prop
  | some n => First t l s d n
  | none => ∀ n, pw t l n d ≠ s
def optI : Option Nat → PyData
  | some n => .int (n : Int)
  | none => .none
section
variable {t : Int} {l : List Src} {s : Src} {d0 d : Int} {T : Nat}
theorem pw_at {k : Nat} (hw : wk t l T d0 = some d) : pw t l (T + k) d0 = pw t l k d := pw_add hw
/-- what is known at a time: the way so far, the source not met -/
structure Way (t : Int) (l : List Src) (s : Src) (d0 d : Int) (T : Nat) : Prop where
  w : wk t l T d0 = some d
  no : ∀ m, m < T → pw t l m d0 ≠ s
theorem Way.start : Way t l s d0 d0 0 := ⟨rfl, fun m h => absurd h (by omega)⟩
theorem Way.here (h : Way t l s d0 d T) (e : s = .inp d) : FirstO t l s d0 (some T) := ⟨by rw [e]; exact pw_wk h.w, h.no⟩
theorem Way.far {k : Nat} (h : Way t l s d0 d T) (hk : ∀ j : Nat, j < k → (l.length : Int) ≤ d + j * (t - l.length)) : ∀ j, j ≤ k → pw t l (T + j) d0 = .inp (d + j * (t - l.length)) := fun j hj => by
  rw [pw_at h.w]
  exact pw_wk (wk_far fun i hi => hk i (by omega))
theorem Way.straight {k : Nat} {q : Int} (h : Way t l s d0 d T) (hk : ∀ j : Nat, j < k → (l.length : Int) ≤ d + j * (t - l.length)) (hs : t - (l.length : Int) ≠ 0) (e : s = .inp q) (hq : q = d + k * (t - l.length)) : FirstO t l s d0 (some (T + k)) := by
  refine ⟨by rw [h.far hk k (Nat.le_refl _), e, hq], fun m hm => ?_⟩
  by_cases hT : m < T
  · exact h.no m hT
  · obtain ⟨j, rfl⟩ : ∃ j, m = T + j := ⟨m - T, by omega⟩
    rw [h.far hk j (by omega), e, hq]
    intro z
    have z := Src.inp.inj z
    have z2 : ((j : Int) - k) * (t - l.length) = 0 := by rw [Int.sub_mul]; omega
    rcases Int.mul_eq_zero.mp z2 with z3 | z3
    · omega
    · exact hs z3
theorem Way.up (h : Way t l s d0 d T) (hd : (l.length : Int) ≤ d) (hs : 0 ≤ t - (l.length : Int)) (no : ∀ k : Nat, s ≠ .inp (d + k * (t - l.length))) : FirstO t l s d0 none := fun n => by
  by_cases hT : n < T
  · exact h.no n hT
  · obtain ⟨j, rfl⟩ : ∃ j, n = T + j := ⟨n - T, by omega⟩
    rw [pw_at h.w, pw_far hd hs]
    exact fun e => no j e.symm
theorem Way.down {k : Nat} (h : Way t l s d0 d T) (hk : ∀ j : Nat, j < k → (l.length : Int) ≤ d + j * (t - l.length)) (no : ∀ j : Nat, j < k → s ≠ .inp (d + j * (t - l.length))) : Way t l s d0 (d + k * (t - l.length)) (T + k) := by
  refine ⟨?_, fun m hm => ?_⟩
  · rw [wk_add h.w]
    exact wk_far hk
  · by_cases hT : m < T
    · exact h.no m hT
    · obtain ⟨j, rfl⟩ : ∃ j, m = T + j := ⟨m - T, by omega⟩
      rw [h.far hk j (by omega)]
      exact fun e => no j (by omega) e.symm
theorem Way.no' (h : Way t l s d0 d T) (ne : s ≠ .inp d) : ∀ m, m < T + 1 → pw t l m d0 ≠ s := fun m hm => by
  by_cases hT : m < T
  · exact h.no m hT
  · rw [show m = T by omega, pw_wk h.w]
    exact fun e => ne e.symm
theorem Way.next {p : Int} (h : Way t l s d0 d T) (ne : s ≠ .inp d) (z : srcAt t l d = .inp p) : Way t l s d0 p (T + 1) := ⟨wk_next h.w z, h.no' ne⟩
theorem Way.lit {v : Int} (h : Way t l s d0 d T) (ne : s ≠ .inp d) (z : srcAt t l d = .lit v) : FirstO t l s d0 (if s = .lit v then some (T + 1) else none) := by
  have e1 : pw t l (T + 1) d0 = .lit v := by rw [pw_at h.w]; exact pw_lit z
  split
  · rename_i e
    exact ⟨by rw [e1, e], h.no' ne⟩
  · rename_i e
    intro n
    by_cases hT : n < T + 1
    · exact h.no' ne n hT
    · obtain ⟨j, rfl⟩ : ∃ j, n = T + 1 + j := ⟨n - (T + 1), by omega⟩
      rw [pw_stop e1]
      exact fun z => e z.symm
theorem Way.ring {a : Nat} (h : Way t l s d0 d T) (ha : a < T) (hw : wk t l a d0 = some d) : FirstO t l s d0 none := fun n => by
  induction n using Nat.strongRecOn with
  | ind n ih =>
    by_cases hT : n < T
    · exact h.no n hT
    · have e1 : pw t l n d0 = pw t l (n - T) d := by
        have := pw_at (k := n - T) h.w
        rwa [show T + (n - T) = n by omega] at this
      have e2 : pw t l (a + (n - T)) d0 = pw t l (n - T) d := pw_add hw
      rw [e1, ← e2]
      exact ih (a + (n - T)) (by omega)
/-! ## how late -/
theorem First.inp {n m : Nat} (h : First t l s d n) (hm : m < n) : ∃ x, wk t l m d = some x := by
  cases z : pw t l m d with
  | inp x => exact ⟨x, wk_pw z⟩
  | lit v =>
    have := pw_stop (b := n - m) z
    rw [show m + (n - m) = n by omega, h.1] at this
    exact absurd (z.trans this.symm) (h.2 m hm)
theorem First.diff {n a b : Nat} {x : Int} (h : First t l s d n) (hab : a < b) (hb : b < n) (ha : wk t l a d = some x) (hbx : wk t l b d = some x) : False := by
  have e1 : pw t l n d = pw t l (n - b) x := by
    have := pw_add (b := n - b) hbx
    rwa [show b + (n - b) = n by omega] at this
  have e2 : pw t l (a + (n - b)) d = pw t l (n - b) x := pw_add ha
  exact h.2 (a + (n - b)) (by omega) (by rw [e2, ← e1, h.1])
theorem First.le {n D : Nat} (h : First t l s d n) (hD : ∀ m x, m < n → wk t l m d = some x → 0 ≤ x ∧ x < D) : n ≤ D := by
  have key : ((List.range n).map fun m => (wk t l m d).getD 0).Nodup := by
    refine List.Pairwise.map _ (R := fun a b => a < b ∧ b < n) (fun a b hab e => ?_) ?_
    · obtain ⟨x, hx⟩ := h.inp (m := a) (by omega)
      obtain ⟨y, hy⟩ := h.inp (m := b) hab.2
      rw [hx, hy] at e
      have e' : x = y := e
      exact h.diff hab.1 hab.2 hx (by rw [e']; exact hy)
    · have hp := (List.pairwise_lt_range (n := n))
      refine List.Pairwise.imp_of_mem (fun {a b} _ hb q => ⟨q, List.mem_range.mp hb⟩) hp
  have := nodup_le key fun x hx => by
    obtain ⟨m, hm, rfl⟩ := List.mem_map.mp hx
    have hm' := List.mem_range.mp hm
    obtain ⟨y, hy⟩ := h.inp hm'
    rw [hy]
    exact hD m y hm' hy
  rw [List.length_map, List.length_range] at this
  exact this
theorem wk_le (o : okE t l) (hs : t - (l.length : Int) ≤ 0) : ∀ {m : Nat} {d x D : Int}, 0 ≤ d → d < D → 100 ≤ D → wk t l m d = some x → 0 ≤ x ∧ x < D
  | 0, d, x, D, h0, hd, hD, h => by cases h; exact ⟨h0, hd⟩
  | m + 1, d, x, D, h0, hd, hD, h => by
    cases z : srcAt t l d with
    | lit v => rw [wk, z] at h; cases h
    | inp p =>
      rw [wk_inp z] at h
      have b : 0 ≤ p ∧ p < D := by
        obtain ⟨t0, t1, l1, ls⟩ := o
        unfold srcAt at z
        split at z
        · cases y : l[((l.length : Int) - 1 - d).toNat]? with
          | none => rw [y] at z; cases z; omega
          | some s =>
            rw [y] at z
            have hs' := ls s (List.mem_of_getElem? y)
            rw [show s = .inp p from z] at hs'
            have hs2 : 0 ≤ p ∧ p < t := hs'
            omega
        · have := Src.inp.inj z
          omega
      exact wk_le o hs b.1 b.2 hD h
theorem wk_nn (o : okE t l) {m : Nat} {d x : Int} (h0 : 0 ≤ d) (h : wk t l m d = some x) : 0 ≤ x := (pw_bound o (D := if d > 100 then d else 100) h0 (by split <;> omega) (by split <;> omega) (pw_wk h)).1
theorem First.low (o : okE t l) (hs : t - (l.length : Int) ≤ 0) {n : Nat} {D : Nat} (h0 : 0 ≤ d) (hd : d < D) (hD : 100 ≤ D) (h : First t l s d n) : n ≤ D := h.le fun m x _ hx => wk_le o hs h0 hd (by omega) hx
theorem First.high (o : okE t l) (hs : 0 < t - (l.length : Int)) {n : Nat} {D : Nat} (h0 : 0 ≤ d) (hD : 100 ≤ D) (hq : ∀ q, s = .inp q → q ≤ D) (h : First t l s d n) : n ≤ D := h.le fun m x hm hx => by
  have hnn := wk_nn o h0 hx
  refine ⟨hnn, ?_⟩
  by_cases q : (l.length : Int) ≤ x
  · have e := pw_add (b := n - m) hx
    rw [show m + (n - m) = n by omega, h.1, pw_far q (by omega)] at e
    have := hq _ e
    have h1 : 1 * (t - (l.length : Int)) ≤ ((n - m : Nat) : Int) * (t - l.length) := Int.mul_le_mul_of_nonneg_right (by omega) (by omega)
    omega
  · have := o.2.2.1
    omega
/-- the time of a source met at some time is no later -/
theorem First.met {n N : Nat} (h : First t l s d n) (e : pw t l N d = s) : n ≤ N := by
  by_cases q : N < n
  · exact absurd e (h.2 N q)
  · omega
theorem First.more (o : okE t l) (hs : 0 < t - (l.length : Int)) {n N : Nat} {q : Int} {D : Nat} (h0 : 0 ≤ d) (hD : 100 ≤ D) (hN : N < D) (e : pw t l N d = .inp q) (h : First t l (.inp (q + 1)) d n) : n ≤ D := by
  by_cases c : n ≤ N + 1
  · omega
  · have hw := wk_pw e
    by_cases hq : (l.length : Int) ≤ q
    · have e2 := pw_add (b := n - N) hw
      rw [show N + (n - N) = n by omega, h.1, pw_far hq (by omega)] at e2
      have e3 := Src.inp.inj e2
      have h1 : 2 * (t - (l.length : Int)) ≤ ((n - N : Nat) : Int) * (t - l.length) := Int.mul_le_mul_of_nonneg_right (by omega) (by omega)
      omega
    · refine h.high o hs h0 hD fun q' e' => ?_
      have := Src.inp.inj e'
      have := o.2.2.1
      omega
end
end Wx

/-! ### part V7k24 -/
set_option Elab.async false
set_option linter.all false
set_option maxRecDepth 100000
set_option maxHeartbeats 1000000
set_option autoImplicit false
namespace Wx
open PySem L2

section
variable {P : Program} {w : World} {K : PySem.W.Frag} {mg : Str → Option Value} {base : Heap} {f C : Addr} {fd : FuncData}
abbrev sp_far_source (K : PySem.W.Frag) : Sp := SpX (ι := Int × List Src × Nat × Int) K (fun x => [.py (.tuple [.int x.1, srcs x.2.1]), .py (.int (x.2.2.1 : Int)), .py (.int x.2.2.2)]) (fun x _ => okE x.1 x.2.1 ∧ 0 ≤ x.2.2.2 ∧ x.2.2.2 < 2 ^ 300 ∧ x.2.2.1 < 2 ^ 200) fun x n d m => d = .py (pw x.1 x.2.1 x.2.2.1 x.2.2.2).py ∧ m = n
theorem ln_far_source (x : Int × List Src × Nat × Int) : [D.py (.tuple [.int x.1, srcs x.2.1]), .py (.int (x.2.2.1 : Int)), .py (.int x.2.2.2)].length = 3 := rfl
theorem nm_far_source (x : Int × List Src × Nat × Int) : [D.py (.tuple [.int x.1, srcs x.2.1]), .py (.int (x.2.2.1 : Int)), .py (.int x.2.2.2)].all D.nm = true := rfl
theorem sc_far_source : FnScope ["pair", "times", "depth", "seen", "taken", "left", "high", "shift", "passes", "source"] ["pair", "times", "depth"] (defScope (top 69)) := ⟨rfl, rfl, rfl, by decide +kernel, rfl, by decide +kernel, by decide +kernel⟩
theorem ok_far_source (F : FnP K "far_source" "far_source" (top 69) f fd) (g_len : mg "len" = none) (g_min : mg "min" = none) : FnOk P w K mg base CX0 1 f fd ["pair", "times", "depth"] (sp_far_source K) := by
  refine F.ok sc_far_source (sx_len ln_far_source) (fun cdv A outer s H vs Q E hr h => ?_)
  have nd := sc_far_source.nd
  refine ⟨_, PSs.nox (pss_cons (ps_asg (pv 0) (gtupK (K := K) (n := 2) rfl rfl (pgs_cons (pg_name (i := 4) nd rfl (Or.inl rfl)) (pgs_cons (pg_name (i := 5) nd rfl (Or.inl rfl)) (pgs_nil)))))
 (pss_cons (ps_par (i := 6) (j := 7) rfl nd rfl rfl (by decide) rfl rfl (pa_cons (pe_callB (lenK (K := K) rfl) rfl g_len PySem.boot_len (pa_cons (pv 5) (pa_nil))) (pa_cons (pe_op op_sub (pv 4) (pe_callB (lenK (K := K) rfl) rfl g_len PySem.boot_len (pa_cons (pv 5) (pa_nil)))) (pa_nil))) rfl)
 (pss_cons (ps_setO (i := 3) nd rfl (Or.inl rfl) (pe_dnewK))
 (pss_cons (ps_while PassesOwn.never (pt_cmpR op_gt (pv 1) (pe_int) (nomark _)) (pss_one (ps_if (pt_cmpR op_ge (pv 2) (pv 6) (nomark _)) (pss_cons (ps_if (pt_cmpR op_ge (pv 7) (pe_int) (nomark _)) (pss_one (ps_ret (pe_tup (pa_cons (pe_str) (pa_cons (pe_op (addK (K := K) rfl) (pv 2) (pe_op opMUL (pv 1) (pv 7))) (pa_nil)))))) (pss_nil))
 (pss_cons (ps_set (i := 8) nd rfl (Or.inl rfl) (pe_callB (callMIN2 rfl) rfl g_min bt_min (pa_cons (pv 1) (pa_cons (pe_op (addK (K := K) rfl) (pe_op op_fdivW (pe_op op_sub (pv 2) (pv 6)) (pe_op op_sub (pe_int) (pv 7))) (pe_int)) (pa_nil)))))
 (pss_one (ps_par (i := 2) (j := 1) rfl nd rfl rfl (by decide) rfl rfl (pa_cons (pe_op (addK (K := K) rfl) (pv 2) (pe_op opMUL (pv 8) (pv 7))) (pa_cons (pe_op op_sub (pv 1) (pv 8)) (pa_nil))) rfl)))) (pss_one (ps_if (pt_cmp (pc_din (hu_of hr) (pv 2) (pv 3)) (by rfl)) (pss_cons (ps_set (i := 1) nd rfl (Or.inl rfl) (pe_op op_modN (pv 1) (pe_op op_sub (pe_dget (hu_of hr) (pv 3) (pv 2) (fun _ _ => rfl)) (pv 1))))
 (pss_one (ps_setO (i := 3) nd rfl (Or.inl rfl) (pe_dnewK)))) (pss_cons (ps_dput (hu_of hr) (pv 3) (pv 2) (pv 1) rfl)
 (pss_cons (ps_set (i := 9) nd rfl (Or.inl rfl) (pe_ix (ixK (K := K) rfl) (pv 5) (pe_op op_sub (pe_op op_sub (pv 6) (pe_int)) (pv 2)) (fun _ _ => rfl)))
 (pss_cons (ps_if (pt_cmpR (eqK (K := K) rfl (room64 hr)) (pe_ix (ixK (K := K) rfl) (pv 9) (pe_int) (fun _ _ => rfl)) (pe_str) (nomark _)) (pss_one (ps_ret (pv 9))) (pss_nil))
 (pss_one (ps_par (i := 2) (j := 1) rfl nd rfl rfl (by decide) rfl rfl (pa_cons (pe_ix (ixK (K := K) rfl) (pv 9) (pe_int) (fun _ _ => rfl)) (pa_cons (pe_op op_sub (pv 1) (pe_int)) (pa_nil))) rfl))))))))))
 (pss_one (ps_ret (pe_tup (pa_cons (pe_str) (pa_cons (pv 2) (pa_nil)))))))))), ?_⟩
  refine body_x nm_far_source ?_ vs H Q E h
  clear h hr
  intro c n x hK hp
  (subst hK)
  try clear g_len g_min F
  obtain ⟨t, l, N, d0⟩ := x
  dsimp only
  obtain ⟨hE, hd0, hdB, hNB⟩ : okE t l ∧ 0 ≤ d0 ∧ d0 < 2 ^ 300 ∧ N < 2 ^ 200 := hp
  obtain ⟨t0, t1, l1, ls⟩ := hE
  walk_at "WK"
  rw [pys_len]
  refine ws_mid (fun e1 => ∃ (d : Int) (xs : List (Int × Nat)) (s8 s9 : Slo) (T : Nat), T = 0 ∧ pw t l N d0 = .inp d ∧ e1 = ⟨[.val (.py (.tuple [.int t, srcs l])), .val (.py (.int (T : Int))), .val (.py (.int d)), .own (.dct (dN xs)), .val (.py (.int t)), .val (.py (srcs l)), .val (.py (.int l.length)), .val (.py (.int (t - l.length))), s8, s9], n⟩) ?_ ?_
  · refine ws_while (fun m e1 => ∃ (d : Int) (xs : List (Int × Nat)) (s8 s9 : Slo) (T : Nat), m = 2 * T + (if xs = [] then 0 else 1) ∧ 0 ≤ d ∧ d < 2 ^ 300 ∧ T ≤ N ∧ pw t l N d0 = pw t l T d ∧ (xs.map Prod.fst).Nodup ∧
      (∀ q ∈ xs, 0 ≤ q.1 ∧ q.1 < l.length ∧ T < q.2 ∧ wk t l (q.2 - T) q.1 = some d) ∧ e1 = ⟨[.val (.py (.tuple [.int t, srcs l])), .val (.py (.int (T : Int))), .val (.py (.int d)), .own (.dct (dN xs)), .val (.py (.int t)), .val (.py (srcs l)), .val (.py (.int l.length)), .val (.py (.int (t - l.length))), s8, s9], n⟩) ⟨_, d0, [], _, _, N, rfl, hd0, hdB, Nat.le_refl _, rfl, List.nodup_nil, (fun q hq => nomatch hq), rfl⟩ ?_
    rintro m e1 ⟨d, xs, s8, s9, T, rfl, h0, hB, hT, hpw, hnd, hxs, rfl⟩
    walk_at "WK"
    refine ⟨fun c1 => ?_, fun c1 => ?_⟩
    · have c1' := of_decide_eq_true c1
      have hL := xs.map Prod.fst
      have hlen : xs.length ≤ 100 := by
        have := nodup_le (n := 100) hnd fun x hx => by
          obtain ⟨q, hq, rfl⟩ := List.mem_map.mp hx
          have := hxs q hq
          omega
        rwa [List.length_map] at this
      walk_at "WK"
      refine ⟨fun c2 => ?_, fun c2 => ?_⟩
      · have c2' := of_decide_eq_true c2
        walk_at "WK"
        refine ⟨fun c3 => ?_, fun c3 => ?_⟩
        · have c3' := of_decide_eq_true c3
          walk_at "WK"
          refine rw_mI (wide_mul (a := 200) (b := 10) (by omega) (by omega) (by decide) (by decide) (by decide)) ?_
          walk_at "WK"
          rw [hpw, pw_far c2' c3']
          exact ⟨rfl, rfl⟩
        · have c3' := of_decide_eq_false c3
          walk_at "WK"
          refine rw_fdI (wide_div (b := 10) (by omega) (by omega) (by decide) (by decide)) ?_
          walk_at "WK"
          have hp0 := down_pos (t := t) c2' (by omega)
          obtain ⟨k, hk⟩ := Int.eq_ofNat_of_zero_le (a := if (d - (l.length : Int)) / (0 - (t - l.length)) + 1 < T then (d - (l.length : Int)) / (0 - (t - l.length)) + 1 else T) (by split <;> omega)
          have hk1 : (k : Int) ≤ (d - l.length) / (0 - (t - l.length)) + 1 ∧ k ≤ T ∧ 0 < k := by
            split at hk <;> omega
          rw [hk]
          refine rw_mI (wide_mul (a := 200) (b := 10) (by omega) (by omega) (by decide) (by decide) (by decide)) ?_
          walk_at "WK"
          have hd := wk_down c2' (by omega) hk1.1
          have hn := down_nn t0 (by omega) hk1.1
          refine ⟨2 * (T - k) + (if xs = [] then 0 else 1), by split <;> omega, d + k * (t - l.length), xs, .val (.py (.int (k : Int))), s9, T - k, rfl, hn.1, by omega, by omega, ?_, hnd, ?_, ?_⟩
          · rw [hpw, show T = k + (T - k) by omega, pw_add hd]
            congr 1
            omega
          · intro q hq
            obtain ⟨q1, q2, q3, q4⟩ := hxs q hq
            refine ⟨q1, q2, by omega, ?_⟩
            rw [show q.2 - (T - k) = (q.2 - T) + k by omega, wk_add q4]
            exact hd
          · rw [show ((T - k : Nat) : Int) = (T : Int) - k by omega]
            rfl
      · have c2' := of_decide_eq_false c2
        walk_at "WK"
        refine ⟨fun c3 => ?_, fun c3 => ?_⟩
        · cases hv : valP (dN xs) (.inl d) with
          | none => rw [hv] at c3; cases c3
          | some y =>
            obtain ⟨Tx, hm, rfl⟩ := dN_some hv
            obtain ⟨q1, q2, q3, q4⟩ := hxs _ hm
            dsimp only at q1 q2 q3 q4
            walk_at "WK"
            refine ⟨_, hv, ?_⟩
            walk_at "WK"
            have em : (T : Int).fmod ((Tx : Int) - T) = ((T % (Tx - T) : Nat) : Int) := by
              rw [show (Tx : Int) - T = ((Tx - T : Nat) : Int) by omega, Int.ofNat_fmod]
            have hmod := Nat.mod_le T (Tx - T)
            have hne : xs ≠ [] := fun z => by rw [z] at hm; cases hm
            refine ⟨2 * (T % (Tx - T)) + 0, by rw [if_neg hne]; omega, d, [], s8, s9, T % (Tx - T), by simp, h0, hB, by omega, ?_, List.nodup_nil, (fun q hq => nomatch hq), by rw [← em]; rfl⟩
            rw [hpw]
            exact pw_ring q4 T
        · cases hv : valP (dN xs) (.inl d) with
          | some y => rw [hv] at c3; cases c3
          | none =>
            have hnot := dN_none hv
            walk_at "WK"
            refine ⟨_, rfl, ?_⟩
            walk_at "WK"
            refine ⟨Nat.lt_of_le_of_lt (show (dN xs).length ≤ 1000 by unfold dN; rw [List.length_map]; omega) (by decide), ?_⟩
            rw [dN_put hv]
            have hi : ((l.length : Int) - 1 - d).toNat < l.length := by omega
            have ei : (l.length : Int) - 1 - d = ((((l.length : Int) - 1 - d).toNat : Nat) : Int) := by omega
            have es : srcAt t l d = l[((l.length : Int) - 1 - d).toNat] := by
              unfold srcAt
              rw [if_pos (by omega), List.getElem?_eq_getElem hi, Option.getD_some]
            have hls := ls _ (List.getElem_mem hi)
            walk_at "WK"
            refine ⟨(srcAt t l d).py, by rw [ei]; exact pys_at (by rw [es]; exact List.getElem?_eq_getElem hi), ?_⟩
            rw [← es] at hls
            obtain ⟨T', rfl⟩ : ∃ T', T = T' + 1 := ⟨T - 1, by omega⟩
            cases z : srcAt t l d with
            | lit v =>
              rw [show (Src.lit v).py = .tuple [.str "lit", .int v] from rfl]
              walk_at "WK"
              refine ⟨_, rfl, ?_⟩
              walk_at "WK"
              refine ⟨fun _ => ?_, fun z => (nomatch z)⟩
              walk_at "WK"
              rw [hpw, pw_lit z]
              exact ⟨rfl, rfl⟩
            | inp p =>
              rw [z] at hls
              have hls' : 0 ≤ p ∧ p < t := hls
              rw [show (Src.inp p).py = .tuple [.str "in", .int p] from rfl]
              walk_at "WK"
              refine ⟨_, rfl, ?_⟩
              walk_at "WK"
              refine ⟨fun z => (nomatch z), fun _ => ?_⟩
              walk_at "WK"
              refine ⟨_, rfl, ?_⟩
              walk_at "WK"
              refine ⟨2 * T' + (if xs ++ [(d, T' + 1)] = [] then 0 else 1), ?_, p, xs ++ [(d, T' + 1)], s8, .val (.py (.tuple [.str "in", .int p])), T', rfl, hls'.1, by omega, by omega, ?_, ?_, ?_, ?_⟩
              · rw [if_neg (by simp)]
                split <;> omega
              · rw [hpw, pw_inp z]
              · rw [List.map_append]
                exact List.nodup_append.mpr ⟨hnd, by simp, fun a ha b hb => by
                  have : b = d := by simpa using hb
                  rw [this]
                  exact fun e => hnot (by rw [← e]; exact ha)⟩
              · intro q hq
                rcases List.mem_append.mp hq with hq | hq
                · obtain ⟨q1, q2, q3, q4⟩ := hxs q hq
                  refine ⟨q1, q2, by omega, ?_⟩
                  rw [show q.2 - T' = (q.2 - (T' + 1)) + 1 by omega]
                  exact wk_next q4 z
                · rw [List.mem_singleton.mp hq]
                  refine ⟨h0, by omega, by (try dsimp only); omega, ?_⟩
                  rw [show (d, T' + 1).2 - T' = 1 by (try dsimp only); omega]
                  exact wk_one z
              · rw [show ((T' + 1 : Nat) : Int) - 1 = (T' : Int) by omega]
                rfl
    · have c1' := of_decide_eq_false c1
      have hT0 : T = 0 := by omega
      subst hT0
      exact ⟨d, xs, s8, s9, 0, rfl, hpw, rfl⟩
  · rintro e1 ⟨d, xs, s8, s9, T, rfl, hd, rfl⟩
    walk_at "WK"
    rw [hd]
    exact ⟨rfl, rfl⟩
/-! ## cell_after -/
abbrev sp_require_times (K : PySem.W.Frag) : Sp := SpX (ι := Nat) K (fun x => [.py (.int (x : Int))]) (fun x _ => x ≤ 10 ^ 30) fun _ n d m => d = .py .none ∧ m = n
theorem ln_require_times (x : Nat) : [D.py (.int (x : Int))].length = 1 := rfl
theorem nm_require_times (x : Nat) : [D.py (.int (x : Int))].all D.nm = true := rfl
theorem sc_require_times : FnScope ["value"] ["value"] (defScope (top 57)) := ⟨rfl, rfl, rfl, by decide +kernel, rfl, by decide +kernel, by decide +kernel⟩
theorem ok_require_times (F : FnP K "require_times" "require_times" (top 57) f fd) (S_in_range : Std P w K mg base 2 "in_range" ["value", "low", "high"] (sp_in_range K)) (i_MOST_TIMES : GInt mg "MOST_TIMES" (10 ^ 30)) : FnOk P w K mg base CX0 3 f fd ["value"] (sp_require_times K) := by
  refine F.ok sc_require_times (sx_len ln_require_times) (fun cdv A outer s H vs Q E hr h => ?_)
  have nd := sc_require_times.nd
  refine ⟨_, PSs.nox (pss_one (ps_if (pt_not (truK (K := K) rfl (pe_std S_in_range hr rfl (pa_cons (pv 0) (pa_cons (pe_int) (pa_cons (pe_gint i_MOST_TIMES rfl) (pa_nil))))) (by intro _; rfl))) (pss_one (ps_never)) (pss_nil))), ?_⟩
  refine body_x nm_require_times ?_ vs H Q E h
  clear h hr
  intro c n x hK hp
  (subst hK)
  try clear S_in_range i_MOST_TIMES F
  have hp' : x ≤ 10 ^ 30 := hp
  walk_at "WK"
  refine ⟨((x : Int), 0, 10 ^ 30), rfl, trivial, ?_⟩
  rintro d m ⟨rfl, rfl⟩
  refine ⟨rfl, ?_⟩
  rw [decide_eq_true (show (0 : Int) ≤ (x : Int) ∧ (x : Int) ≤ 10 ^ 30 by omega)]
  walk_at "WK"
  refine ⟨fun z => (nomatch z), fun _ => ?_⟩
  walk_at "WK"
  exact rfl
abbrev sp_require_effect (K : PySem.W.Frag) (C : Addr) : Sp := SpX (ι := Int × List Src) K (fun x => [effD C x.1 x.2]) (fun _ _ => True) fun _ n d m => d = .py .none ∧ m = n
theorem ln_require_effect (x : Int × List Src) : [effD C x.1 x.2].length = 1 := rfl
theorem nm_require_effect (x : Int × List Src) : [effD C x.1 x.2].all D.nm = true := rfl
theorem sc_require_effect : FnScope ["value"] ["value"] (defScope (top 75)) := ⟨rfl, rfl, rfl, by decide +kernel, rfl, by decide +kernel, by decide +kernel⟩
theorem ok_require_effect (F : FnP K "require_effect" "require_effect" (top 75) f fd) (g_isinstance : mg "isinstance" = none) (kc : KitC K C) (a1 : NoAttr K C "kept_taken") (a2 : NoAttr K C "kept_left") (gE : mg "Effect" = some (.ref C)) : FnOk P w K mg base CX0 1 f fd ["value"] (sp_require_effect K C) := by
  refine F.ok sc_require_effect (sx_len ln_require_effect) (fun cdv A outer s H vs Q E hr h => ?_)
  have nd := sc_require_effect.nd
  refine ⟨_, PSs.nox (pss_one (ps_if (pt_not (truK (K := K) rfl (pe_callB (isiK (K := K) rfl) rfl g_isinstance bt_isinstance (pa_cons (pv 0) (pa_cons (pe_glob (v := .ref C) rfl gE rfl) pa_nil))) (by intro _; rfl))) (pss_one (ps_never)) (pss_nil))), ?_⟩
  refine body_x nm_require_effect ?_ vs H Q E h
  clear h hr
  intro c n x hK hp
  (subst hK)
  try clear g_isinstance gE F
  walk_at "WK"
  refine cw_isiC rfl (ty2_i kc) kc.me ?_
  walk_at "WK"
  refine ⟨fun z => (nomatch z), fun _ => ?_⟩
  walk_at "WK"
  exact rfl
abbrev sp_cell_after (K : PySem.W.Frag) (C : Addr) : Sp := SpX (ι := Int × List Src × Nat × Int) K (fun x => [effD C x.1 x.2.1, .py (.int (x.2.2.1 : Int)), .py (.int x.2.2.2)]) (fun x _ => okE x.1 x.2.1 ∧ 0 ≤ x.2.2.2 ∧ x.2.2.2 < 2 ^ 300 ∧ x.2.2.1 ≤ 10 ^ 30) fun x n d m => d = .py (pw x.1 x.2.1 x.2.2.1 x.2.2.2).py ∧ m = n
theorem ln_cell_after (x : Int × List Src × Nat × Int) : [effD C x.1 x.2.1, .py (.int (x.2.2.1 : Int)), .py (.int x.2.2.2)].length = 3 := rfl
theorem nm_cell_after (x : Int × List Src × Nat × Int) : [effD C x.1 x.2.1, .py (.int (x.2.2.1 : Int)), .py (.int x.2.2.2)].all D.nm = true := rfl
theorem sc_cell_after : FnScope ["effect", "times", "depth"] ["effect", "times", "depth"] (defScope (top 77)) := ⟨rfl, rfl, rfl, by decide +kernel, rfl, by decide +kernel, by decide +kernel⟩
theorem ok_cell_after (F : FnP K "cell_after" "cell_after" (top 77) f fd) (S_require_effect : Std P w K mg base 1 "require_effect" ["value"] (sp_require_effect K C)) (S_require_times : Std P w K mg base 3 "require_times" ["value"] (sp_require_times K)) (S_require_depth : Std P w K mg base 2 "require_depth" ["value"] (sp_require_depth K)) (S_far_source : Std P w K mg base 1 "far_source" ["pair", "times", "depth"] (sp_far_source K)) (kc : KitC K C) (a1 : NoAttr K C "kept_taken") (a2 : NoAttr K C "kept_left") (gE : mg "Effect" = some (.ref C)) (P_taken : StdP P w K mg base 1 C "taken" (sp_Effect_taken K C)) (P_left : StdP P w K mg base 1 C "left" (sp_Effect_left K C)) : FnOk P w K mg base CX0 4 f fd ["effect", "times", "depth"] (sp_cell_after K C) := by
  refine F.ok sc_cell_after (sx_len ln_cell_after) (fun cdv A outer s H vs Q E hr h => ?_)
  have nd := sc_cell_after.nd
  refine ⟨_, PSs.nox (pss_cons (ps_expr (pe_std S_require_effect (hr.mono (by decide)) rfl (pa_cons (pv 0) (pa_nil))))
 (pss_cons (ps_expr (pe_std S_require_times hr rfl (pa_cons (pv 1) (pa_nil))))
 (pss_cons (ps_expr (pe_std S_require_depth (hr.mono (by decide)) rfl (pa_cons (pv 2) (pa_nil))))
 (pss_one (ps_ret (pe_std S_far_source (hr.mono (by decide)) rfl (pa_cons (pe_tup (pa_cons (pe_propS P_taken kc.cl (hr.mono (by decide)) (pv 0) rfl) (pa_cons (pe_propS P_left kc.cl (hr.mono (by decide)) (pv 0) rfl) (pa_nil)))) (pa_cons (pv 1) (pa_cons (pv 2) (pa_nil)))))))))), ?_⟩
  refine body_x nm_cell_after ?_ vs H Q E h
  clear h hr
  intro c n x hK hp
  (subst hK)
  try clear S_require_effect S_require_times S_require_depth S_far_source gE P_taken P_left F
  obtain ⟨t, l, N, d0⟩ := x
  dsimp only
  obtain ⟨hE, hd0, hdB, hNB⟩ : okE t l ∧ 0 ≤ d0 ∧ d0 < 2 ^ 300 ∧ N ≤ 10 ^ 30 := hp
  walk_at "WK"
  refine ⟨(t, l), rfl, trivial, ?_⟩
  rintro d m ⟨rfl, rfl⟩
  refine ⟨rfl, ?_⟩
  walk_at "WK"
  refine ⟨N, rfl, hNB, ?_⟩
  rintro d m ⟨rfl, rfl⟩
  refine ⟨rfl, ?_⟩
  walk_at "WK"
  refine ⟨d0, rfl, hd0, ?_⟩
  rintro d m ⟨rfl, rfl⟩
  refine ⟨rfl, ?_⟩
  walk_at "WK"
  refine ⟨_, rfl, (t, l), rfl, trivial, ?_⟩
  rintro d m ⟨rfl, rfl⟩
  refine ⟨rfl, ?_⟩
  walk_at "WK"
  refine ⟨_, rfl, (t, l), rfl, trivial, ?_⟩
  rintro d m ⟨rfl, rfl⟩
  refine ⟨rfl, ?_⟩
  walk_at "WK"
  refine ⟨(t, l, N, d0), rfl, ⟨hE, hd0, hdB, by (try dsimp only); omega⟩, ?_⟩
  rintro d m ⟨rfl, rfl⟩
  exact ⟨rfl, rfl, rfl⟩
end
end Wx

/-! ### part Y10 -/
set_option Elab.async false
set_option linter.all false
set_option maxRecDepth 100000
set_option maxHeartbeats 1000000
set_option autoImplicit false
namespace Wx
open PySem L2

def dK (xs : List Int) : List (Key × PyData) := xs.map fun x => (.inl x, .bool true)
theorem dK_none {d : Int} : ∀ {xs : List Int}, valP (dK xs) (.inl d) = none → d ∉ xs
  | [], _ => by simp
  | p :: r, h => by
    by_cases e : p = d
    · rw [show dK (p :: r) = (.inl p, .bool true) :: dK r from rfl, valP_pos (by rw [e])] at h
      cases h
    · rw [show dK (p :: r) = (.inl p, .bool true) :: dK r from rfl, valP_neg (fun z => e (Sum.inl.inj z))] at h
      rw [List.mem_cons]
      exact fun z => z.elim (fun z => e z.symm) (dK_none h)
theorem dK_some {d : Int} {y : PyData} : ∀ {xs : List Int}, valP (dK xs) (.inl d) = some y → d ∈ xs
  | [], h => by cases h
  | p :: r, h => by
    by_cases e : p = d
    · rw [e]; exact List.mem_cons_self
    · rw [show dK (p :: r) = (.inl p, .bool true) :: dK r from rfl, valP_neg (fun z => e (Sum.inl.inj z))] at h
      exact List.mem_cons_of_mem _ (dK_some h)
theorem dK_put {d : Int} {xs : List Int} (h : valP (dK xs) (.inl d) = none) : putP (dK xs) (.inl d) (.bool true) = dK (xs ++ [d]) := by
  unfold putP
  rw [valP_any, h, if_neg (by simp)]
  unfold dK
  rw [List.map_append]
  rfl
theorem fd1 {j sh : Int} (h : sh ≠ 0) : (j * sh).fmod sh = 0 ∧ (j * sh).fdiv sh = j := ⟨Int.mul_fmod_left j sh, Int.mul_fdiv_cancel j h⟩
theorem fd2 {x sh : Int} (h : x.fmod sh = 0) : x = x.fdiv sh * sh := by
  have e := Int.mul_fdiv_add_fmod x sh
  rw [h, Int.add_zero] at e
  rw [Int.mul_comm]
  exact e.symm
theorem down_hi {t d : Int} {l : List Src} {k : Nat} (hs : t - (l.length : Int) < 0) (hk : (k : Int) ≤ (d - l.length) / (0 - (t - l.length)) + 1) {j : Nat} (hj : j < k) : (l.length : Int) ≤ d + j * (t - l.length) := by
  have h1 := down_le hs hk
  have h2 : (j : Int) * (0 - (t - l.length)) ≤ ((k : Int) - 1) * (0 - (t - l.length)) := Int.mul_le_mul_of_nonneg_right (by omega) (by omega)
  have h3 : (j : Int) * (0 - (t - l.length)) = - (j * (t - l.length)) := by rw [Int.zero_sub, Int.mul_neg]
  omega
theorem down_end {t d : Int} {l : List Src} {k : Nat} (hs : t - (l.length : Int) < 0) (hk : (k : Int) = (d - l.length) / (0 - (t - l.length)) + 1) : d + k * (t - l.length) < l.length := by
  have hz : 0 < 0 - (t - (l.length : Int)) := by omega
  have h1 := Int.lt_ediv_add_one_mul_self (d - l.length) hz
  rw [← hk] at h1
  have h3 : (k : Int) * (0 - (t - l.length)) = - (k * (t - l.length)) := by rw [Int.zero_sub, Int.mul_neg]
  omega
section
variable {P : Program} {w : World} {K : PySem.W.Frag} {mg : Str → Option Value} {base : Heap} {f C : Addr} {fd : FuncData}
abbrev sp_first_in (K : PySem.W.Frag) : Sp := SpX (ι := Int × List Src × Int × Src) K (fun x => [.py (.tuple [.int x.1, srcs x.2.1]), .py (.int x.2.2.1), .py x.2.2.2.py]) (fun x _ => okE x.1 x.2.1 ∧ 0 ≤ x.2.2.1 ∧ x.2.2.1 < 2 ^ 300) fun x n d m => ∃ r, FirstO x.1 x.2.1 x.2.2.2 x.2.2.1 r ∧ d = .py (optI r) ∧ m = n
theorem ln_first_in (x : Int × List Src × Int × Src) : [D.py (.tuple [.int x.1, srcs x.2.1]), .py (.int x.2.2.1), .py x.2.2.2.py].length = 3 := rfl
theorem nm_first_in (x : Int × List Src × Int × Src) : [D.py (.tuple [.int x.1, srcs x.2.1]), .py (.int x.2.2.1), .py x.2.2.2.py].all D.nm = true := rfl
theorem sc_first_in : FnScope ["pair", "depth", "source", "taken", "left", "high", "shift", "times", "seen", "passes", "before", "more"] ["pair", "depth", "source"] (defScope (top 78)) := ⟨rfl, rfl, rfl, by decide +kernel, rfl, by decide +kernel, by decide +kernel⟩
theorem ok_first_in (F : FnP K "first_in" "first_in" (top 78) f fd) (g_len : mg "len" = none) : FnOk P w K mg base CX0 1 f fd ["pair", "depth", "source"] (sp_first_in K) := by
  refine F.ok sc_first_in (sx_len ln_first_in) (fun cdv A outer s H vs Q E hr h => ?_)
  have nd := sc_first_in.nd
  refine ⟨_, PSs.nox (pss_cons (ps_asg (pv 0) (gtupK (K := K) (n := 2) rfl rfl (pgs_cons (pg_name (i := 3) nd rfl (Or.inl rfl)) (pgs_cons (pg_name (i := 4) nd rfl (Or.inl rfl)) (pgs_nil)))))
 (pss_cons (ps_par (i := 5) (j := 6) rfl nd rfl rfl (by decide) rfl rfl (pa_cons (pe_callB (lenK (K := K) rfl) rfl g_len PySem.boot_len (pa_cons (pv 4) (pa_nil))) (pa_cons (pe_op op_sub (pv 3) (pe_callB (lenK (K := K) rfl) rfl g_len PySem.boot_len (pa_cons (pv 4) (pa_nil)))) (pa_nil))) rfl)
 (pss_cons (ps_parP (ps_par (i := 7) (j := 8) rfl nd rfl rfl (by decide) rfl rfl (pa_cons (pe_int) (pa_cons (pe_dnewK) (pa_nil))) rfl))
 (pss_cons (ps_while PassesOwn.never (pt_cmp (pc_dnotin (hu_of hr) (pv 1) (pv 8)) (by rfl)) (pss_cons (ps_if (pt_cmpR (eqK (K := K) rfl (room64 hr)) (pv 2) (pe_tup (pa_cons (pe_str) (pa_cons (pv 1) (pa_nil)))) (nomark _)) (pss_one (ps_ret (pv 7))) (pss_nil))
 (pss_one (ps_if (pt_cmpR op_ge (pv 1) (pv 5) (nomark _)) (pss_cons (ps_set (i := 9) nd rfl (Or.inl rfl) (pe_ifExp (pt_cmpR op_lt (pv 6) (pe_int) (nomark _)) (pe_op (addK (K := K) rfl) (pe_op op_fdivW (pe_op op_sub (pv 1) (pv 5)) (pe_op op_sub (pe_int) (pv 6))) (pe_int)) (pe_int)))
 (pss_cons (ps_if (PW.pt (pw_and (pt_cmpR (eqK (K := K) rfl (room64 hr)) (pe_ix (ixK (K := K) rfl) (pv 2) (pe_int) (fun _ _ => rfl)) (pe_str) (nomark _)) (pw_and (pt_cmpR (neK (K := K) rfl (room64 hr)) (pv 6) (pe_int) (nomark _)) (pw_and1 (pt_cmpR (eqK (K := K) rfl (room64 hr)) (pe_op op_modN (pe_op op_sub (pe_ix (ixK (K := K) rfl) (pv 2) (pe_int) (fun _ _ => rfl)) (pv 1)) (pv 6)) (pe_int) (nomark _)))))) (pss_cons (ps_set (i := 11) nd rfl (Or.inl rfl) (pe_op op_fdivN (pe_op op_sub (pe_ix (ixK (K := K) rfl) (pv 2) (pe_int) (fun _ _ => rfl)) (pv 1)) (pv 6)))
 (pss_one (ps_if (PW.pt (pw_and (pt_cmpR op_ge (pv 11) (pe_int) (nomark _)) (pw_and1 (PW.pt (pw_or (pt_cmpR op_gt (pv 6) (pe_int) (nomark _)) (pw_or1 (pt_cmpR op_lt (pv 11) (pv 9) (nomark _)))))))) (pss_one (ps_ret (pe_op (addK (K := K) rfl) (pv 7) (pv 11)))) (pss_nil)))) (pss_nil))
 (pss_cons (ps_if (pt_cmpR op_ge (pv 6) (pe_int) (nomark _)) (pss_one (ps_ret (pe_non))) (pss_nil))
 (pss_cons (ps_aug (i := 1) nd rfl (Or.inl rfl) (pe_op opMUL (pv 9) (pv 6)) ip_add)
 (pss_one (ps_aug (i := 7) nd rfl (Or.inl rfl) (pv 9) ip_add)))))) (pss_cons (ps_dput (hu_of hr) (pv 8) (pv 1) (pe_bl) rfl)
 (pss_cons (ps_set (i := 10) nd rfl (Or.inl rfl) (pe_ix (ixK (K := K) rfl) (pv 4) (pe_op op_sub (pe_op op_sub (pv 5) (pe_int)) (pv 1)) (fun _ _ => rfl)))
 (pss_cons (ps_aug (i := 7) nd rfl (Or.inl rfl) (pe_int) ip_add)
 (pss_cons (ps_if (pt_cmpR (eqK (K := K) rfl (room64 hr)) (pe_ix (ixK (K := K) rfl) (pv 10) (pe_int) (fun _ _ => rfl)) (pe_str) (nomark _)) (pss_one (ps_ret (pe_ifExp (pt_cmpR (eqK (K := K) rfl (room64 hr)) (pv 10) (pv 2) (nomark _)) (pv 7) (pe_non)))) (pss_nil))
 (pss_one (ps_set (i := 1) nd rfl (Or.inl rfl) (pe_ix (ixK (K := K) rfl) (pv 10) (pe_int) (fun _ _ => rfl))))))))))))
 (pss_one (ps_ret (pe_non))))))), ?_⟩
  refine body_x nm_first_in ?_ vs H Q E h
  clear h hr
  intro c n x hK hp
  (subst hK)
  try clear g_len F
  obtain ⟨t, l, d0, s⟩ := x
  dsimp only
  obtain ⟨hE, hd0, hdB⟩ : okE t l ∧ 0 ≤ d0 ∧ d0 < 2 ^ 300 := hp
  have hE' := hE
  obtain ⟨t0, t1, l1, ls⟩ := hE'
  walk_at "WK"
  rw [pys_len]
  refine ws_mid (fun e1 => ∃ (d : Int) (xs : List Int) (s9 s10 s11 : Slo) (T : Nat), FirstO t l s d0 none ∧ e1 = ⟨[.val (.py (.tuple [.int t, srcs l])), .val (.py (.int d)), .val (.py s.py), .val (.py (.int t)), .val (.py (srcs l)), .val (.py (.int l.length)), .val (.py (.int (t - l.length))), .val (.py (.int (T : Int))), .own (.dct (dK xs)), s9, s10, s11], n⟩) ?_ ?_
  · refine ws_while (fun m e1 => ∃ (d : Int) (xs : List Int) (s9 s10 s11 : Slo) (T : Nat), m = 2 * (100 - xs.length) + (if (l.length : Int) ≤ d then 1 else 0) ∧ 0 ≤ d ∧ d < 2 ^ 300 ∧ Way t l s d0 d T ∧ xs.Nodup ∧
      (∀ q ∈ xs, 0 ≤ q ∧ q < l.length ∧ ∃ a, a < T ∧ wk t l a d0 = some q) ∧ e1 = ⟨[.val (.py (.tuple [.int t, srcs l])), .val (.py (.int d)), .val (.py s.py), .val (.py (.int t)), .val (.py (srcs l)), .val (.py (.int l.length)), .val (.py (.int (t - l.length))), .val (.py (.int (T : Int))), .own (.dct (dK xs)), s9, s10, s11], n⟩) ⟨_, d0, [], _, _, _, 0, rfl, hd0, hdB, Way.start, List.nodup_nil, (fun q hq => nomatch hq), rfl⟩ ?_
    rintro m e1 ⟨d, xs, s9, s10, s11, T, rfl, h0, hB, hW, hnd, hxs, rfl⟩
    have hlen : xs.length ≤ 100 := nodup_le (n := 100) hnd fun x hx => by
      have := hxs x hx
      omega
    walk_at "WK"
    refine ⟨fun c1 => ?_, fun c1 => ?_⟩
    · cases hv : valP (dK xs) (.inl d) with
      | some y => rw [hv] at c1; cases c1
      | none =>
        have hnot := dK_none hv
        clear c1
        walk_at "WK"
        rw [eqv_inp]
        refine ⟨fun c2 => ?_, fun c2 => ?_⟩
        · walk_at "WK"
          exact ⟨some T, hW.here (of_decide_eq_true c2), rfl, rfl⟩
        · have c2' := of_decide_eq_false c2
          walk_at "WK"
          refine ⟨fun c3 => ?_, fun c3 => ?_⟩
          · have c3' := of_decide_eq_true c3
            obtain ⟨k, hk1, hk2⟩ : ∃ k : Nat, (t - (l.length : Int) < 0 → (k : Int) = (d - l.length) / (0 - (t - l.length)) + 1) ∧ (0 ≤ t - (l.length : Int) → k = 0) := by
              by_cases c : t - (l.length : Int) < 0
              · have hp0 := down_pos (t := t) c3' c
                exact ⟨((d - (l.length : Int)) / (0 - (t - l.length)) + 1).toNat, fun _ => by omega, fun z => by omega⟩
              · exact ⟨0, fun z => absurd z c, fun _ => rfl⟩
            refine ws_seq (ws_set (Wp.mono (Φ := fun dd nn' => dd = .py (.int (k : Int)) ∧ n = nn') ?_ fun dd nn' ⟨hdd, hn'⟩ => ?_) (Nat.le_of_ble_eq_true rfl))
            · walk_at "WK"
              refine ⟨fun c4 => ?_, fun c4 => ?_⟩
              · have c4' := of_decide_eq_true c4
                walk_at "WK"
                refine rw_fdI (wide_div (b := 10) (by omega) (by omega) (by decide) (by decide)) ?_
                walk_at "WK"
                rw [hk1 c4']
                exact ⟨rfl, rfl⟩
              · have c4' := of_decide_eq_false c4
                walk_at "WK"
                rw [hk2 (by omega)]
                exact ⟨rfl, rfl⟩
            (subst hdd hn')
            have k4 : t - (l.length : Int) < 0 → ∀ j : Nat, j < k → (l.length : Int) ≤ d + j * (t - l.length) := fun c j hj => down_hi c (by have := hk1 c; omega) hj
            have k5 : 0 ≤ t - (l.length : Int) → ∀ j : Nat, (l.length : Int) ≤ d + j * (t - l.length) := fun c j => by
              have : 0 ≤ (j : Int) * (t - l.length) := Int.mul_nonneg (by omega) c
              omega
            have kB : (k : Int) < 2 ^ 301 := by
              by_cases c : t - (l.length : Int) < 0
              · have := hk1 c
                have h2 : (d - (l.length : Int)) / (0 - (t - l.length)) ≤ d - l.length := Int.ediv_le_self _ (by omega)
                omega
              · rw [hk2 (by omega)]; decide
            refine ⟨rfl, ws_join (fun e1 => ∃ s11, ((t - (l.length : Int) < 0 → ∀ j : Nat, j < k → s ≠ .inp (d + j * (t - l.length))) ∧ (0 ≤ t - (l.length : Int) → ∀ j : Nat, s ≠ .inp (d + j * (t - l.length)))) ∧ e1 = ⟨[.val (.py (.tuple [.int t, srcs l])), .val (.py (.int d)), .val (.py s.py), .val (.py (.int t)), .val (.py (srcs l)), .val (.py (.int l.length)), .val (.py (.int (t - l.length))), .val (.py (.int (T : Int))), .own (.dct (dK xs)), (.val (.py (.int (k : Int)))), s10, s11], n⟩) ?_ ?_⟩
            · cases s with
              | lit v =>
                rw [show (Src.lit v).py = .tuple [.str "lit", .int v] from rfl]
                walk_at "WK"
                refine ⟨_, rfl, ?_⟩
                walk_at "WK"
                refine ⟨(fun z => nomatch z), fun _ => ?_⟩
                walk_at "WK"
                refine ⟨(fun z => nomatch z), fun _ => ?_⟩
                walk_at "WK"
                exact ⟨_, ⟨(fun _ j _ z => nomatch z), fun _ j z => nomatch z⟩, rfl⟩
              | inp q =>
                rw [show (Src.inp q).py = .tuple [.str "in", .int q] from rfl]
                walk_at "WK"
                refine ⟨_, rfl, ?_⟩
                walk_at "WK"
                refine ⟨fun _ => ?_, fun z => (nomatch z)⟩
                walk_at "WK"
                refine ⟨fun c5 => ?_, fun c5 => ?_⟩
                · have c5' : t - (l.length : Int) ≠ 0 := by simpa using c5
                  walk_at "WK"
                  refine ⟨_, rfl, ?_⟩
                  walk_at "WK"
                  refine ⟨fun c6 => ?_, fun c6 => ?_⟩
                  · have c6' := fd2 (of_decide_eq_true c6)
                    walk_at "WK"
                    refine ⟨_, rfl, ?_⟩
                    walk_at "WK"
                    refine rw_fdN ⟨c5', by omega⟩ ?_
                    walk_at "WK"
                    generalize hM : (q - d).fdiv (t - (l.length : Int)) = M at c6'
                    have fin : ∀ j : Nat, M = (j : Int) → (∀ i : Nat, i < j → (l.length : Int) ≤ d + i * (t - l.length)) → FirstO t l (.inp q) d0 (some (T + j)) := fun j e hj => hW.straight hj c5' rfl (by rw [← e]; omega)
                    have nof : ∀ j : Nat, Src.inp q = .inp (d + j * (t - l.length)) → M = j := fun j z => by
                      have z := Src.inp.inj z
                      have e : (q - d).fdiv (t - (l.length : Int)) = j := by
                        rw [show q - d = (j : Int) * (t - l.length) by omega]
                        exact (fd1 c5').2
                      rw [← hM, e]
                    refine ⟨fun c7 => ?_, fun c7 => ?_⟩
                    · have c7' := of_decide_eq_true c7
                      obtain ⟨j, rfl⟩ := Int.eq_ofNat_of_zero_le c7'
                      walk_at "WK"
                      refine ⟨fun c8 => ?_, fun c8 => ?_⟩
                      · have c8' := of_decide_eq_false c8
                        have c4' : t - (l.length : Int) < 0 := by omega
                        walk_at "WK"
                        refine ⟨fun c9 => ?_, fun c9 => ?_⟩
                        · have c9' := of_decide_eq_true c9
                          walk_at "WK"
                          exact ⟨some (T + j), fin j rfl fun i hi => k4 c4' i (by omega), rfl, rfl⟩
                        · have c9' := of_decide_eq_false c9
                          walk_at "WK"
                          exact ⟨_, ⟨fun _ i hi z => by have := nof i z; omega, fun z => absurd z (by omega)⟩, rfl⟩
                      · have c8' := of_decide_eq_true c8
                        walk_at "WK"
                        refine ⟨fun _ => ?_, fun z => (nomatch z)⟩
                        walk_at "WK"
                        exact ⟨some (T + j), fin j rfl fun i _ => k5 (by omega) i, rfl, rfl⟩
                    · have c7' := of_decide_eq_false c7
                      walk_at "WK"
                      refine ⟨(fun z => nomatch z), fun _ => ?_⟩
                      walk_at "WK"
                      exact ⟨_, ⟨fun _ i _ z => by have := nof i z; omega, fun _ i z => by have := nof i z; omega⟩, rfl⟩
                  · have c6' := of_decide_eq_false c6
                    walk_at "WK"
                    have nof : ∀ j : Nat, Src.inp q ≠ .inp (d + j * (t - l.length)) := fun j z => by
                      have z := Src.inp.inj z
                      refine c6' ?_
                      rw [show q - d = (j : Int) * (t - l.length) by omega]
                      exact (fd1 c5').1
                    exact ⟨_, ⟨fun _ j _ => nof j, fun _ j => nof j⟩, rfl⟩
                · have c5' : t - (l.length : Int) = 0 := by simpa using c5
                  walk_at "WK"
                  refine ⟨(fun z => nomatch z), fun _ => ?_⟩
                  walk_at "WK"
                  exact ⟨_, ⟨fun z => absurd z (by omega), fun _ j z => by
                    refine c2' ?_
                    rw [z, c5', Int.mul_zero, Int.add_zero]⟩, rfl⟩
            · rintro e1 ⟨s11, ⟨n1, n2⟩, rfl⟩
              walk_at "WK"
              refine ⟨fun c5 => ?_, fun c5 => ?_⟩
              · have c5' := of_decide_eq_true c5
                walk_at "WK"
                exact ⟨none, hW.up c3' c5' (n2 c5'), rfl, rfl⟩
              · have c5' := of_decide_eq_false c5
                have c6 : t - (l.length : Int) < 0 := by omega
                walk_at "WK"
                refine rw_mI (wide_mul (a := 302) (b := 10) (by omega) (by omega) (by decide) (by decide) (by decide)) ?_
                refine ⟨_, rfl, ?_⟩
                walk_at "WK"
                refine ⟨_, rfl, ?_⟩
                have hnn := down_nn t0 c6 (k := k) (d := d) (by have := hk1 c6; omega)
                have hend := down_end c6 (hk1 c6)
                refine ⟨2 * (100 - xs.length) + (if (l.length : Int) ≤ d + k * (t - l.length) then 1 else 0), by rw [if_pos c3', if_neg (by omega)]; omega, d + k * (t - l.length), xs, _, s10, s11, T + k, rfl, hnn.1, by omega, hW.down (k4 c6) (n1 c6), hnd, ?_, rfl⟩
                intro q hq
                obtain ⟨q1, q2, a, q3, q4⟩ := hxs q hq
                exact ⟨q1, q2, a, by omega, q4⟩
          · have c3' := of_decide_eq_false c3
            have hi : ((l.length : Int) - 1 - d).toNat < l.length := by omega
            have ei : (l.length : Int) - 1 - d = ((((l.length : Int) - 1 - d).toNat : Nat) : Int) := by omega
            have es : srcAt t l d = l[((l.length : Int) - 1 - d).toNat] := by
              unfold srcAt
              rw [if_pos (by omega), List.getElem?_eq_getElem hi, Option.getD_some]
            have hls := ls _ (List.getElem_mem hi)
            rw [← es] at hls
            walk_at "WK"
            refine ⟨_, rfl, ?_⟩
            walk_at "WK"
            refine ⟨Nat.lt_of_le_of_lt (show (dK xs).length ≤ 1000 by unfold dK; rw [List.length_map]; omega) (by decide), ?_⟩
            rw [dK_put hv]
            walk_at "WK"
            refine ⟨(srcAt t l d).py, by rw [ei]; exact pys_at (by rw [es]; exact List.getElem?_eq_getElem hi), ?_⟩
            walk_at "WK"
            refine ⟨_, rfl, ?_⟩
            cases z : srcAt t l d with
            | lit v =>
              have hL := hW.lit c2' z
              rw [show (Src.lit v).py = .tuple [.str "lit", .int v] from rfl]
              walk_at "WK"
              refine ⟨_, rfl, ?_⟩
              walk_at "WK"
              refine ⟨fun _ => ?_, fun z => (nomatch z)⟩
              walk_at "WK"
              rw [show PyData.eqv (.tuple [.str "lit", .int v]) s.py = decide (Src.lit v = s) from eqv_src (.lit v) s]
              refine ⟨fun c7 => ?_, fun c7 => ?_⟩
              · have c7' := of_decide_eq_true c7
                rw [if_pos c7'.symm] at hL
                walk_at "WK"
                exact ⟨some (T + 1), hL, rfl, rfl⟩
              · have c7' := of_decide_eq_false c7
                rw [if_neg fun z => c7' z.symm] at hL
                walk_at "WK"
                exact ⟨none, hL, rfl, rfl⟩
            | inp p =>
              rw [z] at hls
              have hls' : 0 ≤ p ∧ p < t := hls
              rw [show (Src.inp p).py = .tuple [.str "in", .int p] from rfl]
              walk_at "WK"
              refine ⟨_, rfl, ?_⟩
              walk_at "WK"
              refine ⟨(fun z => nomatch z), fun _ => ?_⟩
              walk_at "WK"
              refine ⟨_, rfl, ?_⟩
              walk_at "WK"
              have hnd2 : (xs ++ [d]).Nodup := List.nodup_append.mpr ⟨hnd, by simp, fun a ha b hb => by
                have : b = d := by simpa using hb
                rw [this]
                exact fun e => hnot (by rw [← e]; exact ha)⟩
              have hin2 : ∀ q ∈ xs ++ [d], 0 ≤ q ∧ q < l.length ∧ ∃ a, a < T + 1 ∧ wk t l a d0 = some q := fun q hq => by
                rcases List.mem_append.mp hq with hq | hq
                · obtain ⟨q1, q2, a, q3, q4⟩ := hxs q hq
                  exact ⟨q1, q2, a, by omega, q4⟩
                · rw [List.mem_singleton.mp hq]
                  exact ⟨h0, by omega, T, by omega, hW.w⟩
              have hlen2 : (xs ++ [d]).length ≤ 100 := nodup_le (n := 100) hnd2 fun x hx => by
                have := hin2 x hx
                omega
              rw [List.length_append, List.length_singleton] at hlen2
              refine ⟨2 * (100 - (xs.length + 1)) + (if (l.length : Int) ≤ p then 1 else 0), by rw [if_neg (show ¬ (l.length : Int) ≤ d from c3')]; split <;> omega, p, xs ++ [d], s9, .val (.py (.tuple [.str "in", .int p])), s11, T + 1, by rw [List.length_append]; rfl, hls'.1, by omega, hW.next c2' z, hnd2, hin2, rfl⟩
    · cases hv : valP (dK xs) (.inl d) with
      | none => rw [hv] at c1; cases c1
      | some y =>
        obtain ⟨_, _, a, ha, hw⟩ := hxs _ (dK_some hv)
        exact ⟨d, xs, s9, s10, s11, T, hW.ring ha hw, rfl⟩
  · rintro e1 ⟨d, xs, s9, s10, s11, T, hF, rfl⟩
    walk_at "WK"
    exact ⟨none, hF, rfl, rfl⟩
end
end Wx

/-! ### part Y11 -/
set_option Elab.async false
set_option linter.all false
set_option maxRecDepth 100000
set_option maxHeartbeats 1000000
set_option autoImplicit false
namespace Wx
open PySem L2

def wo : Src → Int
  | .inp p => p
  | .lit v => v
section
variable {P : Program} {w : World} {K : PySem.W.Frag} {mg : Str → Option Value} {base : Heap} {f C : Addr} {fd : FuncData}
abbrev sp_require_source (K : PySem.W.Frag) : Sp := SpX (ι := Src) K (fun s => [.py s.py]) (fun s _ => isS s) fun _ n d m => d = .py .none ∧ m = n
theorem ln_require_source (s : Src) : [D.py s.py].length = 1 := rfl
theorem nm_require_source (s : Src) : [D.py s.py].all D.nm = true := rfl
theorem sc_require_source : FnScope ["value"] ["value"] (defScope (top 61)) := ⟨rfl, rfl, rfl, by decide +kernel, rfl, by decide +kernel, by decide +kernel⟩
theorem ok_require_source (F : FnP K "require_source" "require_source" (top 61) f fd) (S_is_source : Std P w K mg base 4 "is_source" ["value"] (sp_is_source K)) : FnOk P w K mg base CX0 5 f fd ["value"] (sp_require_source K) := by
  refine F.ok sc_require_source (sx_len ln_require_source) (fun cdv A outer s H vs Q E hr h => ?_)
  have nd := sc_require_source.nd
  refine ⟨_, PSs.nox (pss_one (ps_if (pt_not (truK (K := K) rfl (pe_std S_is_source hr rfl (pa_cons (pv 0) (pa_nil))) (by intro _; rfl))) (pss_one (ps_never)) (pss_nil))), ?_⟩
  refine body_x nm_require_source ?_ vs H Q E h
  clear h hr
  intro c n x hK hp
  (subst hK)
  try clear S_is_source F
  walk_at "WK"
  refine ⟨x, rfl, hp, ?_⟩
  rintro d m ⟨rfl, rfl⟩
  refine ⟨rfl, ?_⟩
  walk_at "WK"
  refine ⟨fun z => (nomatch z), fun _ => ?_⟩
  walk_at "WK"
  exact rfl
abbrev sp_first_time (K : PySem.W.Frag) (C : Addr) : Sp := SpX (ι := Int × List Src × Int × Src) K (fun x => [effD C x.1 x.2.1, .py (.int x.2.2.1), .py x.2.2.2.py]) (fun x _ => okE x.1 x.2.1 ∧ 0 ≤ x.2.2.1 ∧ x.2.2.1 < 2 ^ 300 ∧ isS x.2.2.2) fun x n d m => ∃ r, FirstO x.1 x.2.1 x.2.2.2 x.2.2.1 r ∧ d = .py (optI r) ∧ m = n
theorem ln_first_time (x : Int × List Src × Int × Src) : [effD C x.1 x.2.1, .py (.int x.2.2.1), .py x.2.2.2.py].length = 3 := rfl
theorem nm_first_time (x : Int × List Src × Int × Src) : [effD C x.1 x.2.1, .py (.int x.2.2.1), .py x.2.2.2.py].all D.nm = true := rfl
theorem sc_first_time : FnScope ["effect", "depth", "source"] ["effect", "depth", "source"] (defScope (top 79)) := ⟨rfl, rfl, rfl, by decide +kernel, rfl, by decide +kernel, by decide +kernel⟩
theorem ok_first_time (F : FnP K "first_time" "first_time" (top 79) f fd) (S_require_effect : Std P w K mg base 1 "require_effect" ["value"] (sp_require_effect K C)) (S_require_depth : Std P w K mg base 2 "require_depth" ["value"] (sp_require_depth K)) (S_require_source : Std P w K mg base 5 "require_source" ["value"] (sp_require_source K)) (S_first_in : Std P w K mg base 1 "first_in" ["pair", "depth", "source"] (sp_first_in K)) (kc : KitC K C) (a1 : NoAttr K C "kept_taken") (a2 : NoAttr K C "kept_left") (gE : mg "Effect" = some (.ref C)) (P_taken : StdP P w K mg base 1 C "taken" (sp_Effect_taken K C)) (P_left : StdP P w K mg base 1 C "left" (sp_Effect_left K C)) : FnOk P w K mg base CX0 6 f fd ["effect", "depth", "source"] (sp_first_time K C) := by
  refine F.ok sc_first_time (sx_len ln_first_time) (fun cdv A outer s H vs Q E hr h => ?_)
  have nd := sc_first_time.nd
  refine ⟨_, PSs.nox (pss_cons (ps_expr (pe_std S_require_effect (hr.mono (by decide)) rfl (pa_cons (pv 0) (pa_nil))))
 (pss_cons (ps_expr (pe_std S_require_depth (hr.mono (by decide)) rfl (pa_cons (pv 1) (pa_nil))))
 (pss_cons (ps_expr (pe_std S_require_source hr rfl (pa_cons (pv 2) (pa_nil))))
 (pss_one (ps_ret (pe_std S_first_in (hr.mono (by decide)) rfl (pa_cons (pe_tup (pa_cons (pe_propS P_taken kc.cl (hr.mono (by decide)) (pv 0) rfl) (pa_cons (pe_propS P_left kc.cl (hr.mono (by decide)) (pv 0) rfl) (pa_nil)))) (pa_cons (pv 1) (pa_cons (pv 2) (pa_nil)))))))))), ?_⟩
  refine body_x nm_first_time ?_ vs H Q E h
  clear h hr
  intro c n x hK hp
  (subst hK)
  try clear S_require_effect S_require_depth S_require_source S_first_in gE P_taken P_left F
  obtain ⟨t, l, d0, s⟩ := x
  dsimp only
  obtain ⟨hE, hd0, hdB, hS⟩ : okE t l ∧ 0 ≤ d0 ∧ d0 < 2 ^ 300 ∧ isS s := hp
  walk_at "WK"
  refine ⟨(t, l), rfl, trivial, ?_⟩
  rintro d m ⟨rfl, rfl⟩
  refine ⟨rfl, ?_⟩
  walk_at "WK"
  refine ⟨d0, rfl, hd0, ?_⟩
  rintro d m ⟨rfl, rfl⟩
  refine ⟨rfl, ?_⟩
  walk_at "WK"
  refine ⟨s, rfl, hS, ?_⟩
  rintro d m ⟨rfl, rfl⟩
  refine ⟨rfl, ?_⟩
  walk_at "WK"
  refine ⟨_, rfl, (t, l), rfl, trivial, ?_⟩
  rintro d m ⟨rfl, rfl⟩
  refine ⟨rfl, ?_⟩
  walk_at "WK"
  refine ⟨_, rfl, (t, l), rfl, trivial, ?_⟩
  rintro d m ⟨rfl, rfl⟩
  refine ⟨rfl, ?_⟩
  walk_at "WK"
  refine ⟨(t, l, d0, s), rfl, ⟨hE, hd0, hdB⟩, ?_⟩
  rintro d m ⟨r, hr, rfl, rfl⟩
  refine ⟨by cases r <;> rfl, r, hr, ?_, rfl⟩
  cases r <;> rfl
end
end Wx

/-! ### part Ke -/
set_option Elab.async false
set_option linter.all false
set_option maxRecDepth 100000
set_option maxHeartbeats 1000000
set_option autoImplicit false
/-! _law_class. -/
namespace Wx
open PySem L2 PyProof.Rows
def C6 : List Str := ["InvalidCommand", "InvalidName", "InvalidOperation", "InvalidPile", "InvalidText", "InvalidUnits"]
def C8 : List Str := ["InvalidValue", "InvalidWord", "Lost", "NoSuchStep", "Nothing", "NotReachable", "TooDeep", "TooLarge"]
def CT13 : List Str := ["InvalidProgram", "NotPlain", "InvalidEffect", "InvalidStack", "InvalidDepth", "InvalidStep", "InvalidSource", "InvalidTimes", "InvalidIndex", "InvalidChoices", "NotBalanced", "TooHigh", "ShortStack"]
def CN : List Str := ["InvalidProgram", "NotPlain", "InvalidEffect", "InvalidStack", "InvalidDepth", "InvalidStep", "InvalidSource", "InvalidTimes", "InvalidIndex", "InvalidChoices", "NotBalanced", "TooHigh", "ShortStack", "InvalidCommand", "InvalidName", "InvalidOperation", "InvalidPile", "InvalidText", "InvalidUnits", "InvalidValue", "InvalidWord", "Lost", "NoSuchStep", "Nothing", "NotReachable", "TooDeep", "TooLarge"]
/-- the error classes' names -/
structure ClN (K : PySem.W.Frag) (mg : Str → Option Value) : Prop where
  g : ∀ x ∈ CN, mg x = some (.ref (He.ga K x))
/-- an error class of which an instance is asked -/
structure ErK (K : PySem.W.Frag) (x : Str) : Prop where
  ec : ExcC K (He.ga K x)
  kit : ∀ y ∈ CN, PySem.W.kitOne K (.ref (He.ga K x)) (.ref (He.ga K y)) = some (y == x)
  ve : PySem.W.kitOne K (.ref (He.ga K x)) (.type "ValueError") = some true
/-- the errors of the claim: class, word -/
def rn : Nat → Str × Str
  | 0 => ("InvalidEffect", "effect")
  | 1 => ("InvalidTimes", "times")
  | 2 => ("InvalidDepth", "depth")
  | 3 => ("InvalidSource", "source")
  | 4 => ("NotBalanced", "balanced")
  | _ => ("", "")
def B13 (j : Nat) : List Bool := CT13.map fun y => y == (rn j).1
def NM : List Str := ["program", "plain", "effect", "stack", "depth", "step", "source", "times", "index", "choices", "balanced", "", ""]
theorem no6 : ∀ j, j < 5 → ∀ y ∈ C6, y ∈ CN ∧ (y == (rn j).1) = false := by decide +kernel
theorem no8 : ∀ j, j < 5 → ∀ y ∈ C8, y ∈ CN ∧ (y == (rn j).1) = false := by decide +kernel
theorem b13 : ∀ j, j < 5 → ∃ i : Nat, (B13 j)[i]? = some true ∧ (∀ m : Nat, m < i → (B13 j)[m]? = some (!true)) ∧ NM[i]? = some (rn j).2 ∧ ((B13 j).countP fun z => z == true) = 1 ∧ (B13 j)[11]? = some false ∧ (B13 j)[12]? = some false
  | 0, _ => ⟨2, by decide +kernel, by decide +kernel, by decide +kernel, by decide +kernel, by decide +kernel, by decide +kernel⟩
  | 1, _ => ⟨7, by decide +kernel, by decide +kernel, by decide +kernel, by decide +kernel, by decide +kernel, by decide +kernel⟩
  | 2, _ => ⟨4, by decide +kernel, by decide +kernel, by decide +kernel, by decide +kernel, by decide +kernel, by decide +kernel⟩
  | 3, _ => ⟨6, by decide +kernel, by decide +kernel, by decide +kernel, by decide +kernel, by decide +kernel, by decide +kernel⟩
  | 4, _ => ⟨10, by decide +kernel, by decide +kernel, by decide +kernel, by decide +kernel, by decide +kernel, by decide +kernel⟩
  | j + 5, h => absurd h (by omega)
def tTupA (ta : TA) : TE := tTup ta
theorem pe_tupA {X : Cx} {es : List Expr} {t : TA} {x1} {pos : Pos} (h : PA X es t) : PE X (.Tuple es x1 pos) (tTupA t) := pe_tup h
theorem bt_ValueError : bootBuiltins "ValueError" = some (.type "ValueError") := by decide +kernel
section
variable {c : Cy} {K : PySem.W.Frag} {x : Str} {n : Nat} {Φ : D → Nat → Prop}
theorem cw_isXN {y : Str} (hK : K = c.K) (E : ErK K x) (hy : y ∈ CN) (h : Φ (.py (.bool (y == x))) n) : Cw c (rIsX K) [.obj (isExc (He.ga K x)), .atom (.ref (He.ga K y))] n Φ := cw_isX hK E.ec (.own _) (E.kit y hy) h
theorem cw_isXV (hK : K = c.K) (E : ErK K x) (h : Φ (.py (.bool true)) n) : Cw c (rIsX K) [.obj (isExc (He.ga K x)), .atom (.ty "ValueError")] n Φ := cw_isX hK E.ec (.ty _) E.ve h
theorem cls_pair : ∀ ys : List Str, Paired ClsV (ys.map fun y => V.ref (He.ga K y)) (ys.map fun y => Value.ref (He.ga K y))
  | [] => .nil
  | y :: ys => .cons (.own _) (cls_pair ys)
theorem kitAny_no (E : ErK K x) : ∀ ys : List Str, (∀ y ∈ ys, y ∈ CN ∧ (y == x) = false) → PySem.W.kitAny K (.ref (He.ga K x)) (ys.map fun y => Value.ref (He.ga K y)) = some false
  | [], _ => rfl
  | y :: ys, h => kitAny_cons (b := false) (by rw [E.kit y (h y List.mem_cons_self).1, (h y List.mem_cons_self).2]) (fun _ => kitAny_no E ys fun z hz => h z (List.mem_cons_of_mem _ hz)) (fun z => nomatch z)
theorem cw_isXTN (ys : List Str) (hK : K = c.K) (E : ErK K x) (hy : ∀ y ∈ ys, y ∈ CN ∧ (y == x) = false) (h : Φ (.py (.bool false)) n) : Cw c (rIsXT K) [.obj (isExc (He.ga K x)), .obj (isTup (ys.map fun y => V.ref (He.ga K y)))] n Φ :=
  cw_isXT hK E.ec (cls_pair ys) (kitAny_no E ys hy) h
theorem wp_tupA' {sl : List Slo} {nn : Nat} {ta : TA} (h : Wa c ta ⟨sl, nn⟩ fun ds n => ∃ ws : List V, ds = ws.map D.atom ∧ ws.length ≤ sizeLine ∧ Φ (.obj (isTup ws)) n) : Wp c (tTupA ta) ⟨sl, nn⟩ Φ := wp_tupA h
end

section
variable {P : Program} {w : World} {K : PySem.W.Frag} {mg : Str → Option Value} {base : Heap} {f C : Addr} {fd : FuncData}
abbrev sp__law_class (K : PySem.W.Frag) : Sp := SpX (ι := Nat) K (fun j => [.obj (isExc (He.ga K (rn j).1))]) (fun j _ => j < 5) fun j n d m => d = .py (.str (rn j).2) ∧ m = n
theorem ln__law_class (j : Nat) : [D.obj (isExc (He.ga K (rn j).1))].length = 1 := rfl
theorem nm__law_class (j : Nat) : [D.obj (isExc (He.ga K (rn j).1))].all D.nm = true := rfl
theorem sc__law_class : FnScope ["caught", "some", "names"] ["caught"] (defScope (top 89)) := ⟨rfl, rfl, rfl, by decide +kernel, rfl, by decide +kernel, by decide +kernel⟩
theorem ok__law_class (F : FnP K "_law_class" "_law_class" (top 89) f fd) (g_isinstance : mg "isinstance" = none) (g_repr : mg "repr" = none) (g_ValueError : mg "ValueError" = none) (CG : ClN K mg) (ER : ∀ j, j < 5 → ErK K (rn j).1) : FnOk P w K mg base CX0 1 f fd ["caught"] (sp__law_class K) := by
  refine F.ok sc__law_class (sx_len ln__law_class) (fun cdv A outer s H vs Q E hr h => ?_)
  have nd := sc__law_class.nd
  refine ⟨_, PSs.nox (pss_cons (ps_set (i := 1) nd rfl (Or.inl rfl) (pe_lst (pa_cons (pe_callB (isXK (K := K) rfl) rfl g_isinstance bt_isinstance (pa_cons (pv 0) (pa_cons (pe_glob (v := .ref (He.ga K "InvalidProgram")) rfl (CG.g "InvalidProgram" (by decide)) rfl) pa_nil))) (pa_cons (pe_callB (isXK (K := K) rfl) rfl g_isinstance bt_isinstance (pa_cons (pv 0) (pa_cons (pe_glob (v := .ref (He.ga K "NotPlain")) rfl (CG.g "NotPlain" (by decide)) rfl) pa_nil))) (pa_cons (pe_callB (isXK (K := K) rfl) rfl g_isinstance bt_isinstance (pa_cons (pv 0) (pa_cons (pe_glob (v := .ref (He.ga K "InvalidEffect")) rfl (CG.g "InvalidEffect" (by decide)) rfl) pa_nil))) (pa_nil))))))
 (pss_cons (ps_set (i := 1) nd rfl (Or.inl rfl) (pe_op (addK (K := K) rfl) (pv 1) (pe_lst (pa_cons (pe_callB (isXK (K := K) rfl) rfl g_isinstance bt_isinstance (pa_cons (pv 0) (pa_cons (pe_glob (v := .ref (He.ga K "InvalidStack")) rfl (CG.g "InvalidStack" (by decide)) rfl) pa_nil))) (pa_cons (pe_callB (isXK (K := K) rfl) rfl g_isinstance bt_isinstance (pa_cons (pv 0) (pa_cons (pe_glob (v := .ref (He.ga K "InvalidDepth")) rfl (CG.g "InvalidDepth" (by decide)) rfl) pa_nil))) (pa_cons (pe_callB (isXK (K := K) rfl) rfl g_isinstance bt_isinstance (pa_cons (pv 0) (pa_cons (pe_glob (v := .ref (He.ga K "InvalidStep")) rfl (CG.g "InvalidStep" (by decide)) rfl) pa_nil))) (pa_nil)))))))
 (pss_cons (ps_set (i := 1) nd rfl (Or.inl rfl) (pe_op (addK (K := K) rfl) (pv 1) (pe_lst (pa_cons (pe_callB (isXK (K := K) rfl) rfl g_isinstance bt_isinstance (pa_cons (pv 0) (pa_cons (pe_glob (v := .ref (He.ga K "InvalidSource")) rfl (CG.g "InvalidSource" (by decide)) rfl) pa_nil))) (pa_cons (pe_callB (isXK (K := K) rfl) rfl g_isinstance bt_isinstance (pa_cons (pv 0) (pa_cons (pe_glob (v := .ref (He.ga K "InvalidTimes")) rfl (CG.g "InvalidTimes" (by decide)) rfl) pa_nil))) (pa_nil))))))
 (pss_cons (ps_set (i := 1) nd rfl (Or.inl rfl) (pe_op (addK (K := K) rfl) (pv 1) (pe_lst (pa_cons (pe_callB (isXK (K := K) rfl) rfl g_isinstance bt_isinstance (pa_cons (pv 0) (pa_cons (pe_glob (v := .ref (He.ga K "InvalidIndex")) rfl (CG.g "InvalidIndex" (by decide)) rfl) pa_nil))) (pa_cons (pe_callB (isXK (K := K) rfl) rfl g_isinstance bt_isinstance (pa_cons (pv 0) (pa_cons (pe_glob (v := .ref (He.ga K "InvalidChoices")) rfl (CG.g "InvalidChoices" (by decide)) rfl) pa_nil))) (pa_nil))))))
 (pss_cons (ps_set (i := 1) nd rfl (Or.inl rfl) (pe_op (addK (K := K) rfl) (pv 1) (pe_lst (pa_cons (pe_callB (isXK (K := K) rfl) rfl g_isinstance bt_isinstance (pa_cons (pv 0) (pa_cons (pe_glob (v := .ref (He.ga K "NotBalanced")) rfl (CG.g "NotBalanced" (by decide)) rfl) pa_nil))) (pa_cons (pe_callB (isXK (K := K) rfl) rfl g_isinstance bt_isinstance (pa_cons (pv 0) (pa_cons (pe_glob (v := .ref (He.ga K "TooHigh")) rfl (CG.g "TooHigh" (by decide)) rfl) pa_nil))) (pa_cons (pe_callB (isXK (K := K) rfl) rfl g_isinstance bt_isinstance (pa_cons (pv 0) (pa_cons (pe_glob (v := .ref (He.ga K "ShortStack")) rfl (CG.g "ShortStack" (by decide)) rfl) pa_nil))) (pa_nil)))))))
 (pss_cons (ps_if (truK (K := K) rfl (pe_callB (isXTK (K := K) rfl) rfl g_isinstance bt_isinstance (pa_cons (pv 0) (pa_cons (pe_tupA (pa_cons (pe_glob (v := .ref (He.ga K "InvalidCommand")) rfl (CG.g "InvalidCommand" (by decide)) rfl) (pa_cons (pe_glob (v := .ref (He.ga K "InvalidName")) rfl (CG.g "InvalidName" (by decide)) rfl) (pa_cons (pe_glob (v := .ref (He.ga K "InvalidOperation")) rfl (CG.g "InvalidOperation" (by decide)) rfl) (pa_cons (pe_glob (v := .ref (He.ga K "InvalidPile")) rfl (CG.g "InvalidPile" (by decide)) rfl) (pa_cons (pe_glob (v := .ref (He.ga K "InvalidText")) rfl (CG.g "InvalidText" (by decide)) rfl) (pa_cons (pe_glob (v := .ref (He.ga K "InvalidUnits")) rfl (CG.g "InvalidUnits" (by decide)) rfl) (pa_nil)))))))) pa_nil))) (by intro _; rfl)) (pss_one (ps_ret (pe_str))) (pss_nil))
 (pss_cons (ps_if (truK (K := K) rfl (pe_callB (isXTK (K := K) rfl) rfl g_isinstance bt_isinstance (pa_cons (pv 0) (pa_cons (pe_tupA (pa_cons (pe_glob (v := .ref (He.ga K "InvalidValue")) rfl (CG.g "InvalidValue" (by decide)) rfl) (pa_cons (pe_glob (v := .ref (He.ga K "InvalidWord")) rfl (CG.g "InvalidWord" (by decide)) rfl) (pa_cons (pe_glob (v := .ref (He.ga K "Lost")) rfl (CG.g "Lost" (by decide)) rfl) (pa_cons (pe_glob (v := .ref (He.ga K "NoSuchStep")) rfl (CG.g "NoSuchStep" (by decide)) rfl) (pa_cons (pe_glob (v := .ref (He.ga K "Nothing")) rfl (CG.g "Nothing" (by decide)) rfl) (pa_cons (pe_glob (v := .ref (He.ga K "NotReachable")) rfl (CG.g "NotReachable" (by decide)) rfl) (pa_cons (pe_glob (v := .ref (He.ga K "TooDeep")) rfl (CG.g "TooDeep" (by decide)) rfl) (pa_cons (pe_glob (v := .ref (He.ga K "TooLarge")) rfl (CG.g "TooLarge" (by decide)) rfl) (pa_nil)))))))))) pa_nil))) (by intro _; rfl)) (pss_one (ps_ret (pe_str))) (pss_nil))
 (pss_cons (ps_setO (i := 2) nd rfl (Or.inl rfl) (pe_lst (pa_cons (pe_str) (pa_cons (pe_str) (pa_cons (pe_str) (pa_cons (pe_str) (pa_cons (pe_str) (pa_cons (pe_str) (pa_cons (pe_str) (pa_cons (pe_str) (pa_cons (pe_str) (pa_cons (pe_str) (pa_cons (pe_str) (pa_nil))))))))))))))
 (pss_cons (ps_expr (pe_bm PySem.F.plainAttrs_list PySem.F.slot_list_append PySem.F.type_list_append mt_append (pv 2) (pa_cons (pe_ifExp (truK (K := K) rfl (pe_ix (ixK (K := K) rfl) (pv 1) (pe_int) (fun _ _ => rfl)) (by intro _; rfl)) (pe_never) (pe_str)) (pa_nil))))
 (pss_cons (ps_expr (pe_bm PySem.F.plainAttrs_list PySem.F.slot_list_append PySem.F.type_list_append mt_append (pv 2) (pa_cons (pe_ifExp (truK (K := K) rfl (pe_ix (ixK (K := K) rfl) (pv 1) (pe_int) (fun _ _ => rfl)) (by intro _; rfl)) (pe_never) (pe_str)) (pa_nil))))
 (pss_one (ps_ret (pe_ifExp (PW.pt (pw_and (pt_cmpR (eqK (K := K) rfl (room64 hr)) (pe_bm PySem.F.plainAttrs_list PySem.F.slot_list_count PySem.F.type_list_count mt_count (pv 1) (pa_cons (pe_bl) (pa_nil))) (pe_int) (nomark _)) (pw_and1 (truK (K := K) rfl (pe_callB (isXK (K := K) rfl) rfl g_isinstance bt_isinstance (pa_cons (pv 0) (pa_cons (pe_bltn (v := .ty "ValueError") rfl g_ValueError bt_ValueError rfl) pa_nil))) (by intro _; rfl))))) (pe_ix (ixK (K := K) rfl) (pv 2) (pe_bm PySem.F.plainAttrs_list PySem.F.slot_list_index PySem.F.type_list_index mt_index (pv 1) (pa_cons (pe_bl) (pa_nil))) (fun _ _ => rfl)) (pe_str)))))))))))))), ?_⟩
  refine body_x nm__law_class ?_ vs H Q E h
  clear h hr
  intro c n x hK hp
  (subst hK)
  try clear g_isinstance g_repr g_ValueError F
  have E5 : ErK c.K (rn x).1 := ER x hp
  have hx : x < 5 := hp
  clear ER
  refine ws_seq ?_
  walk_at "WJ"
  refine ws_seq ?_
  walk_at "WJ"
  refine ws_seq ?_
  walk_at "WJ"
  refine ws_seq ?_
  walk_at "WJ"
  refine ws_seq ?_
  walk_at "WJ"
  show Ws c _ ⟨[.val (.obj (isExc (He.ga c.K (rn x).1))), .val (.py (.list (bls (B13 x)))), .emp], n⟩ _
  refine ws_seq ?_
  walk_at "WJ"
  refine ⟨C6.map fun y => V.ref (He.ga c.K y), rfl, by show 6 ≤ sizeLine; decide, ?_⟩
  walk_at "WJ"
  refine cw_isXTN C6 rfl E5 (no6 x hx) ?_
  walk_at "WJ"
  refine ⟨(fun z => nomatch z), fun _ => ?_⟩
  walk_at "WJ"
  refine ws_seq ?_
  walk_at "WJ"
  refine ⟨C8.map fun y => V.ref (He.ga c.K y), rfl, by show 8 ≤ sizeLine; decide, ?_⟩
  walk_at "WJ"
  refine cw_isXTN C8 rfl E5 (no8 x hx) ?_
  walk_at "WJ"
  refine ⟨(fun z => nomatch z), fun _ => ?_⟩
  walk_at "WJ"
  obtain ⟨j, b1, b2, b3, b4, b5, b6⟩ := b13 x hx
  generalize B13 x = bs at *
  refine ws_seq ?_
  walk_at "WJ"
  refine ws_seq ?_
  walk_at "WJ"
  have a11 : atI (bls bs) 11 = some (.bool false) := atI_nat (j := 11) (by unfold bls; rw [List.getElem?_map, b5]; rfl)
  have a12 : atI (bls bs) 12 = some (.bool false) := atI_nat (j := 12) (by unfold bls; rw [List.getElem?_map, b6]; rfl)
  refine ⟨_, a11, (fun z => nomatch z), fun _ => ?_⟩
  walk_at "WJ"
  refine ⟨_, rfl, by decide, ?_⟩
  refine ws_seq ?_
  walk_at "WJ"
  refine ⟨_, a12, (fun z => nomatch z), fun _ => ?_⟩
  walk_at "WJ"
  refine ⟨_, rfl, by decide, ?_⟩
  walk_at "WJ"
  refine wp_countB (bs := bs) (b := true) rfl rfl ?_
  walk_at "WJ"
  refine ⟨fun _ => ?_, fun z => absurd z (by rw [b4]; decide)⟩
  walk_at "WJ"
  refine ⟨fun _ => ?_, (fun z => nomatch z)⟩
  walk_at "WJ"
  refine wp_indexB (bs := bs) (j := j) (b := true) rfl rfl b1 b2 ?_
  walk_at "WJ"
  have h3 : (NM.map PyData.str)[j]? = some (.str (rn x).2) := by rw [List.getElem?_map, b3]; rfl
  exact ⟨_, atI_nat h3, rfl, rfl⟩
end
end Wx

/-! ### part Kf -/
set_option Elab.async false
set_option linter.all false
set_option maxRecDepth 100000
set_option maxHeartbeats 1000000
set_option autoImplicit false
/-! is_int, in_range, is_constant, is_source of anything. -/
namespace Wx
open PySem L2

def isI : PyData → Bool
  | .int _ => true
  | _ => false
def inRP (p : PyData) (lo hi : Int) : Bool := match p with
  | .int i => decide (lo ≤ i ∧ i ≤ hi)
  | _ => false
def kn (p : PyData) : Prop := (tyN (.py p)).isSome = true
section
variable {P : Program} {w : World} {K : PySem.W.Frag} {mg : Str → Option Value} {base : Heap} {f C : Addr} {fd : FuncData}
abbrev sp_is_intP (K : PySem.W.Frag) : Sp := SpX (ι := PyData) K (fun p => [.py p]) (fun p _ => kn p) fun p n d m => d = .py (.bool (isI p)) ∧ m = n
theorem ln_is_intP (p : PyData) : [D.py p].length = 1 := rfl
theorem nm_is_intP (p : PyData) : [D.py p].all D.nm = true := rfl
theorem ok_is_intP (F : FnP K "is_int" "is_int" (top 38) f fd) (g_isinstance : mg "isinstance" = none) (g_int : mg "int" = none) (g_bool : mg "bool" = none) : FnOk P w K mg base CX0 1 f fd ["value"] (sp_is_intP K) := by
  refine F.ok sc_is_int (sx_len ln_is_intP) (fun cdv A outer s H vs Q E hr h => ?_)
  have nd := sc_is_int.nd
  refine ⟨_, PSs.nox (pss_one (ps_ret (pe_and (pe_callB (isiK (K := K) rfl) rfl g_isinstance bt_isinstance (pa_cons (pv 0) (pa_cons (pe_bltn (v := .ty "int") rfl g_int bt_int rfl) pa_nil))) (pe_one (pe_not (pe_callB (isiK (K := K) rfl) rfl g_isinstance bt_isinstance (pa_cons (pv 0) (pa_cons (pe_bltn (v := .ty "bool") rfl g_bool bt_bool rfl) pa_nil)))))))), ?_⟩
  refine body_x nm_is_intP ?_ vs H Q E h
  clear h hr
  intro c n x hK hp
  (subst hK)
  try clear g_isinstance g_int g_bool F
  have hp' : kn x := hp
  clear hp
  cases x with
  | none =>
    walk_at "WK"
    exact ⟨(fun z => nomatch z), fun _ => ⟨rfl, rfl⟩⟩
  | bool b =>
    walk_at "WK"
    refine ⟨fun _ => ?_, (fun z => nomatch z)⟩
    walk_at "WK"
    trivial
  | int i =>
    walk_at "WK"
    refine ⟨fun _ => ?_, (fun z => nomatch z)⟩
    walk_at "WK"
    trivial
  | str z =>
    walk_at "WK"
    exact ⟨(fun z => nomatch z), fun _ => ⟨rfl, rfl⟩⟩
  | list z =>
    walk_at "WK"
    exact ⟨(fun z => nomatch z), fun _ => ⟨rfl, rfl⟩⟩
  | tuple z =>
    walk_at "WK"
    exact ⟨(fun z => nomatch z), fun _ => ⟨rfl, rfl⟩⟩
  | dict z =>
    cases z with
    | cons a b => exact absurd hp' (by simp [kn, tyN])
    | nil =>
      walk_at "WK"
      exact ⟨(fun z => nomatch z), fun _ => ⟨rfl, rfl⟩⟩
abbrev sp_in_rangeP (K : PySem.W.Frag) : Sp := SpX (ι := PyData × Int × Int) K (fun x => [.py x.1, .py (.int x.2.1), .py (.int x.2.2)]) (fun x _ => kn x.1) fun x n d m => d = .py (.bool (inRP x.1 x.2.1 x.2.2)) ∧ m = n
theorem ln_in_rangeP (x : PyData × Int × Int) : [D.py x.1, .py (.int x.2.1), .py (.int x.2.2)].length = 3 := rfl
theorem nm_in_rangeP (x : PyData × Int × Int) : [D.py x.1, .py (.int x.2.1), .py (.int x.2.2)].all D.nm = true := rfl
theorem ok_in_rangeP (F : FnP K "in_range" "in_range" (top 39) f fd) (S_is_intP : Std P w K mg base 1 "is_int" ["value"] (sp_is_intP K)) : FnOk P w K mg base CX0 2 f fd ["value", "low", "high"] (sp_in_rangeP K) := by
  refine F.ok sc_in_range (sx_len ln_in_rangeP) (fun cdv A outer s H vs Q E hr h => ?_)
  have nd := sc_in_range.nd
  refine ⟨_, PSs.nox (pss_one (ps_ret (pe_and (pe_std S_is_intP hr rfl (pa_cons (pv 0) (pa_nil))) (pe_one (pe_chain op_le op_le (pv 1) (pv 0) (pv 2)))))), ?_⟩
  refine body_x nm_in_rangeP ?_ vs H Q E h
  clear h hr
  intro c n x hK hp
  (subst hK)
  try clear S_is_intP F
  obtain ⟨p, lo, hi⟩ := x
  have hp' : kn p := hp
  clear hp
  dsimp only
  walk_at "WK"
  refine ⟨p, rfl, hp', ?_⟩
  rintro d m ⟨rfl, rfl⟩
  refine ⟨rfl, ?_⟩
  walk_at "WK"
  refine ⟨fun h0 => ?_, fun h0 => ?_⟩
  · cases p with
    | int i =>
      walk_at "WK"
      refine ⟨fun h1 => ?_, fun h1 => ?_⟩
      · walk_at "WK"
        have h2 := of_decide_eq_true h1
        exact ⟨by simp [frz, h2, inRP], rfl⟩
      · have h2 := of_decide_eq_false h1
        exact ⟨by simp [frz, h2, inRP], rfl⟩
    | _ => cases h0
  · cases p with
    | int i => cases h0
    | _ => exact ⟨rfl, rfl⟩
end
end Wx

/-! ### part Kg -/
set_option Elab.async false
set_option linter.all false
set_option maxRecDepth 100000
set_option maxHeartbeats 1000000
set_option autoImplicit false
/-! is_constant, is_source of anything. -/
namespace Wx
open PySem L2

section
variable {P : Program} {w : World} {K : PySem.W.Frag} {mg : Str → Option Value} {base : Heap} {f C : Addr} {fd : FuncData}
abbrev sp_is_constantP (K : PySem.W.Frag) : Sp := SpX (ι := PyData) K (fun p => [.py p]) (fun p _ => kn p) fun p n d m => d = .py (.bool (inRP p (-(10 ^ 30)) (10 ^ 30))) ∧ m = n
theorem ln_is_constantP (p : PyData) : [D.py p].length = 1 := rfl
theorem nm_is_constantP (p : PyData) : [D.py p].all D.nm = true := rfl
theorem ok_is_constantP (F : FnP K "is_constant" "is_constant" (top 40) f fd) (S_in_rangeP : Std P w K mg base 2 "in_range" ["value", "low", "high"] (sp_in_rangeP K)) (i_GREATEST : GInt mg "GREATEST" (10 ^ 30)) : FnOk P w K mg base CX0 3 f fd ["value"] (sp_is_constantP K) := by
  refine F.ok sc_is_constant (sx_len ln_is_constantP) (fun cdv A outer s H vs Q E hr h => ?_)
  have nd := sc_is_constant.nd
  refine ⟨_, PSs.nox (pss_one (ps_ret (pe_std S_in_rangeP hr rfl (pa_cons (pv 0) (pa_cons (pe_un un_neg (pe_gint i_GREATEST rfl)) (pa_cons (pe_gint i_GREATEST rfl) (pa_nil))))))), ?_⟩
  refine body_x nm_is_constantP ?_ vs H Q E h
  clear h hr
  intro c n x hK hp
  (subst hK)
  try clear S_in_rangeP i_GREATEST F
  have hp' : kn x := hp
  clear hp
  walk_at "WK"
  refine ⟨(x, -(10 ^ 30), 10 ^ 30), rfl, hp', ?_⟩
  rintro d m ⟨rfl, rfl⟩
  exact ⟨rfl, rfl, rfl⟩
def isSrcP : PyData → Bool
  | .tuple [.str k, v] => if k = "in" then (match v with | .int i => decide (0 ≤ i) | _ => false) else decide (k = "lit") && inRP v (-(10 ^ 30)) (10 ^ 30)
  | _ => false
def knS (p : PyData) : Prop := kn p ∧ ∀ a b, p = .tuple [a, b] → kn a ∧ kn b ∧ SeqAt.shaped a = true
abbrev sp_is_sourceP (K : PySem.W.Frag) : Sp := SpX (ι := PyData) K (fun p => [.py p]) (fun p _ => knS p) fun p n d m => d = .py (.bool (isSrcP p)) ∧ m = n
theorem ln_is_sourceP (p : PyData) : [D.py p].length = 1 := rfl
theorem nm_is_sourceP (p : PyData) : [D.py p].all D.nm = true := rfl
theorem ok_is_sourceP (F : FnP K "is_source" "is_source" (top 60) f fd) (g_isinstance : mg "isinstance" = none) (g_tuple : mg "tuple" = none) (g_len : mg "len" = none) (g_str : mg "str" = none) (S_is_intP : Std P w K mg base 1 "is_int" ["value"] (sp_is_intP K)) (S_is_constantP : Std P w K mg base 3 "is_constant" ["value"] (sp_is_constantP K)) : FnOk P w K mg base CX0 4 f fd ["value"] (sp_is_sourceP K) := by
  refine F.ok sc_is_source (sx_len ln_is_sourceP) (fun cdv A outer s H vs Q E hr h => ?_)
  have nd := sc_is_source.nd
  refine ⟨_, PSs.nox (pss_cons (ps_if (PW.pt (pw_or (pt_not (truK (K := K) rfl (pe_callB (isiK (K := K) rfl) rfl g_isinstance bt_isinstance (pa_cons (pv 0) (pa_cons (pe_bltn (v := .ty "tuple") rfl g_tuple bt_tuple rfl) pa_nil))) (by intro _; rfl))) (pw_or (pt_cmpR (neK (K := K) rfl (room64 hr)) (pe_callB (lenK (K := K) rfl) rfl g_len PySem.boot_len (pa_cons (pv 0) (pa_nil))) (pe_int) (nomark _)) (pw_or1 (pt_not (truK (K := K) rfl (pe_callB (isiK (K := K) rfl) rfl g_isinstance bt_isinstance (pa_cons (pe_ix (ixK (K := K) rfl) (pv 0) (pe_int) (fun _ _ => rfl)) (pa_cons (pe_bltn (v := .ty "str") rfl g_str bt_str rfl) pa_nil))) (by intro _; rfl))))))) (pss_one (ps_ret (pe_bl))) (pss_nil))
 (pss_cons (ps_if (pt_cmpR (eqK (K := K) rfl (room64 hr)) (pe_ix (ixK (K := K) rfl) (pv 0) (pe_int) (fun _ _ => rfl)) (pe_str) (nomark _)) (pss_one (ps_ret (pe_and (pe_std S_is_intP (hr.mono (by decide)) rfl (pa_cons (pe_ix (ixK (K := K) rfl) (pv 0) (pe_int) (fun _ _ => rfl)) (pa_nil))) (pe_one (pe_cmpR op_ge (pe_ix (ixK (K := K) rfl) (pv 0) (pe_int) (fun _ _ => rfl)) (pe_int) (nomark _)))))) (pss_nil))
 (pss_one (ps_ret (pe_and (pe_cmpR (eqK (K := K) rfl (room64 hr)) (pe_ix (ixK (K := K) rfl) (pv 0) (pe_int) (fun _ _ => rfl)) (pe_str) (nomark _)) (pe_one (pe_std S_is_constantP hr rfl (pa_cons (pe_ix (ixK (K := K) rfl) (pv 0) (pe_int) (fun _ _ => rfl)) (pa_nil))))))))), ?_⟩
  refine body_x nm_is_sourceP ?_ vs H Q E h
  clear h hr
  intro c n x hK hp
  (subst hK)
  try clear g_isinstance g_tuple g_len g_str S_is_intP S_is_constantP F
  have hp' : knS x := hp
  clear hp
  cases x with
  | tuple l =>
    walk_at "WK"
    refine ⟨fun _ => ?_, (fun z => nomatch z)⟩
    walk_at "WK"
    refine ⟨fun h2 => ?_, fun h2 => ?_⟩
    · obtain ⟨a, b, rfl⟩ : ∃ a b, l = [a, b] := by
        match l, h2 with
        | [a, b], _ => exact ⟨a, b, rfl⟩
        | [], h => simp at h
        | [_], h => simp at h
        | _ :: _ :: _ :: _, h => simp at h; omega
      obtain ⟨ka, kb, sa⟩ := hp'.2 a b rfl
      walk_at "WK"
      refine ⟨_, rfl, ?_⟩
      cases a with
      | str k =>
        walk_at "WK"
        refine ⟨(fun z => nomatch z), fun _ => ?_⟩
        walk_at "WK"
        refine ⟨_, rfl, ?_⟩
        have hk : (PyData.str k).eqv (PyData.str "in") = decide (k = "in") := by simp only [PyData.eqv]; by_cases h : k = Str.ofString "in" <;> simp [h]
        have hl : (PyData.str k).eqv (PyData.str "lit") = decide (k = "lit") := by simp only [PyData.eqv]; by_cases h : k = Str.ofString "lit" <;> simp [h]
        walk_at "WK"
        refine ⟨sa, by decide +kernel, ?_⟩
        rw [hk]
        refine ⟨fun h3 => ?_, fun h3 => ?_⟩
        · have e3 := of_decide_eq_true h3
          walk_at "WK"
          refine ⟨_, rfl, ?_⟩
          walk_at "WK"
          refine ⟨b, rfl, kb, ?_⟩
          rintro d m ⟨rfl, rfl⟩
          refine ⟨rfl, ?_⟩
          walk_at "WK"
          refine ⟨fun h4 => ?_, fun h4 => ?_⟩
          · cases b with
            | int i =>
              walk_at "WK"
              refine ⟨_, rfl, ?_⟩
              walk_at "WK"
              exact ⟨by simp [frz, isSrcP, e3], rfl⟩
            | _ => cases h4
          · cases b with
            | int i => cases h4
            | _ => exact ⟨by simp [frz, isSrcP, e3], rfl⟩
        · have e3 := of_decide_eq_false h3
          walk_at "WK"
          refine ⟨_, rfl, ?_⟩
          walk_at "WK"
          refine ⟨sa, by decide +kernel, ?_⟩
          rw [hl]
          refine ⟨fun h4 => ?_, fun h4 => ?_⟩
          · have e4 := of_decide_eq_true h4
            walk_at "WK"
            refine ⟨_, rfl, ?_⟩
            walk_at "WK"
            refine ⟨b, rfl, kb, ?_⟩
            rintro d m ⟨rfl, rfl⟩
            exact ⟨rfl, by rw [show isSrcP (.tuple [.str k, b]) = inRP b (-(10 ^ 30)) (10 ^ 30) by simp only [isSrcP]; rw [if_neg e3, decide_eq_true e4]; rfl]; rfl, rfl⟩
          · have e4 := of_decide_eq_false h4
            exact ⟨by rw [show isSrcP (.tuple [.str k, b]) = false by simp only [isSrcP]; rw [if_neg e3, decide_eq_false e4]; rfl]; rfl, rfl⟩
      | dict z =>
        cases z with
        | cons u v => exact absurd ka (by simp [kn, tyN])
        | nil =>
          walk_at "WK"
          refine ⟨fun _ => ?_, fun z => absurd z (by decide)⟩
          walk_at "WK"
          first | exact ⟨rfl, rfl⟩ | rfl | trivial
      | _ =>
        walk_at "WK"
        refine ⟨fun _ => ?_, fun z => absurd z (by decide)⟩
        walk_at "WK"
        first | exact ⟨rfl, rfl⟩ | rfl | trivial
    · walk_at "WK"
      refine ⟨fun _ => ?_, (fun z => nomatch z)⟩
      walk_at "WK"
      have e : isSrcP (.tuple l) = false := by
        unfold isSrcP
        split
        · rename_i q
          cases q
          simp at h2
        · rfl
      exact ⟨by rw [e]; rfl, rfl⟩
  | dict z =>
    cases z with
    | cons u v => exact absurd hp'.1 (by simp [kn, tyN])
    | nil =>
      walk_at "WK"
      refine ⟨fun z => absurd z (by decide), fun _ => ?_⟩
      walk_at "WK"
      refine ⟨fun _ => ?_, (fun z => nomatch z)⟩
      walk_at "WK"
      first | exact ⟨rfl, rfl⟩ | rfl | trivial
  | _ =>
    walk_at "WK"
    refine ⟨fun z => absurd z (by decide), fun _ => ?_⟩
    walk_at "WK"
    refine ⟨fun _ => ?_, (fun z => nomatch z)⟩
    walk_at "WK"
    first | exact ⟨rfl, rfl⟩ | rfl | trivial
end
end Wx

/-! ### part Kr -/
set_option Elab.async false
set_option linter.all false
set_option maxRecDepth 100000
set_option maxHeartbeats 1000000
set_option autoImplicit false
/-! Own exceptions without fields: raised, caught, asked by isinstance. -/
namespace Wx
open PySem L2 PyProof.Rows
structure Ex0 (K : PySem.W.Frag) (mg : Str → Option Value) (x : Str) (C : Addr) : Prop where
  gC : mg x = some (.ref C)
  xC : PySem.W.excIn K C veT "ValueError.__new__" = true
  kC : PySem.W.keepIn K (.ref C) = true
  tC : PySem.W.typeIn K (.ref C) = some (.type "type")
  te : PySem.W.exmOne K (.ref C) (.ref C) = some true
  ve : PySem.W.kitOne K (.ref C) (.type "ValueError") = some true
  ec : ExcC K C
def tRaise0 (C : Addr) (W : WX) : TS := fun _ σ H => W (.ref C) none σ H
theorem ps_raise0 {X : Cx} {C : Addr} {W : WX} {x m : Str} {j : Nat} {p p2 pos pos2 : Pos} (hc : X.calm = true) (T : Ex0 X.K X.mg x C) (tk : Takes X W) (hg : Gl X x := by rfl) (hdb : (x == ("__debug__" : Str)) = false := by decide) :
    PS X (.Raise (some (.Call (.Name x p) [.Constant (.str m) j p2] [] pos)) none pos2) (tRaise0 C W) := ps_raise hc tk (pmk_own PySem.F.excBase_ValueError T.xC T.gC T.kC (raises_own T.ec.hs T.tC) hg hdb)
theorem wr_raise0 {c : Cy} {C : Addr} {W : WX} {sl : List Slo} {nn : Nat} {Φ : Addr → XFs → En → Prop} (h : Φ C none ⟨sl, nn⟩) : Wr c (tRaise0 C W) ⟨sl, nn⟩ W Φ := ⟨fun σ A H o x Dn => x σ A H ⟨sl, nn⟩ (.ref C) none C none h Kept.refl (fun _ z => .inl z) o ⟨rfl, rfl⟩⟩
section
variable {c : Cy} {sl : List Slo} {nn : Nat} {ta : TA} {K : PySem.W.Frag} {W : WX}
end
end Wx

/-! ### part Kh -/
set_option Elab.async false
set_option linter.all false
set_option maxRecDepth 100000
set_option maxHeartbeats 1000000
set_option autoImplicit false
/-! The require_ defs at bad values. -/
namespace Wx
open PySem L2

section
variable {P : Program} {w : World} {K : PySem.W.Frag} {mg : Str → Option Value} {base : Heap} {f C CT : Addr} {fd : FuncData}
abbrev spr_require_times (K : PySem.W.Frag) (C CT : Addr) : Sp := SpR (ι := PyData) K (fun p => [.py p]) (fun p _ => kn p ∧ inRP p 0 (10 ^ 30) = false) fun _ n cl fs m => cl = CT ∧ fs = none ∧ m = n
theorem lnr_require_times (p : PyData) : [D.py p].length = 1 := rfl
theorem nmr_require_times (p : PyData) : [D.py p].all D.nm = true := rfl
theorem okr_require_times (F : FnP K "require_times" "require_times" (top 57) f fd) (S_in_rangeP : Std P w K mg base 2 "in_range" ["value", "low", "high"] (sp_in_rangeP K)) (i_MOST_TIMES : GInt mg "MOST_TIMES" (10 ^ 30)) (X_times : Ex0 K mg "InvalidTimes" CT) : FnOk P w K mg base (L2.CX P w) 3 f fd ["value"] (spr_require_times K C CT) := by
  refine F.ok sc_require_times (sr_len lnr_require_times) (fun cdv A outer s H vs Q E hr h => ?_)
  have nd := sc_require_times.nd
  have tk : Takes (cxOf (L2.CX P w) P w K mg base ["value"] "require_times" (defScope (top 57)) f cdv A outer s H E) (fun cls d _ H => E cls d H) := takes_of rfl rfl rfl rfl
  refine ⟨_, (pss_one (ps_if (pt_not (truK (K := K) rfl (pe_std S_in_rangeP hr rfl (pa_cons (pv 0) (pa_cons (pe_int) (pa_cons (pe_gint i_MOST_TIMES rfl) (pa_nil))))) (by intro _; rfl))) (pss_one (ps_raise0 rfl X_times tk)) (pss_nil))), ?_⟩
  refine body_r nmr_require_times ?_ vs H Q h
  clear h hr tk
  intro c n x hK hp
  (subst hK)
  try clear S_in_rangeP i_MOST_TIMES F
  obtain ⟨k1, k2⟩ : kn x ∧ inRP x 0 (10 ^ 30) = false := hp
  refine wr_if ?_
  walk_at "WK"
  refine ⟨(x, 0, 10 ^ 30), rfl, k1, ?_⟩
  rintro d m ⟨rfl, rfl⟩
  refine ⟨rfl, ?_⟩
  dsimp only
  rw [k2]
  walk_at "WK"
  refine ⟨fun _ => ?_, (fun z => nomatch z)⟩
  exact wr_raise0 ⟨rfl, rfl, rfl⟩
/-! ## require_depth: no int, or a negative one -/
def badDp (p : PyData) : Bool := match p with
  | .int i => decide (i < 0)
  | _ => true
abbrev spr_require_depth (K : PySem.W.Frag) (C CT : Addr) : Sp := SpR (ι := PyData) K (fun p => [.py p]) (fun p _ => kn p ∧ badDp p = true) fun _ n cl fs m => cl = CT ∧ fs = none ∧ m = n
theorem lnr_require_depth (p : PyData) : [D.py p].length = 1 := rfl
theorem nmr_require_depth (p : PyData) : [D.py p].all D.nm = true := rfl
theorem okr_require_depth (F : FnP K "require_depth" "require_depth" (top 62) f fd) (S_is_intP : Std P w K mg base 1 "is_int" ["value"] (sp_is_intP K)) (X_depth : Ex0 K mg "InvalidDepth" CT) : FnOk P w K mg base (L2.CX P w) 2 f fd ["value"] (spr_require_depth K C CT) := by
  refine F.ok sc_require_depth (sr_len lnr_require_depth) (fun cdv A outer s H vs Q E hr h => ?_)
  have nd := sc_require_depth.nd
  have tk : Takes (cxOf (L2.CX P w) P w K mg base ["value"] "require_depth" (defScope (top 62)) f cdv A outer s H E) (fun cls d _ H => E cls d H) := takes_of rfl rfl rfl rfl
  refine ⟨_, (pss_one (ps_if (PW.pt (pw_or (pt_not (truK (K := K) rfl (pe_std S_is_intP hr rfl (pa_cons (pv 0) (pa_nil))) (by intro _; rfl))) (pw_or1 (pt_cmpR op_lt (pv 0) (pe_int) (nomark _))))) (pss_one (ps_raise0 rfl X_depth tk)) (pss_nil))), ?_⟩
  refine body_r nmr_require_depth ?_ vs H Q h
  clear h hr tk
  intro c n x hK hp
  (subst hK)
  try clear S_is_intP F
  obtain ⟨k1, k2⟩ : kn x ∧ badDp x = true := hp
  refine wr_if ?_
  walk_at "WK"
  refine ⟨x, rfl, k1, ?_⟩
  rintro d m ⟨rfl, rfl⟩
  refine ⟨rfl, ?_⟩
  walk_at "WK"
  refine ⟨fun h1 => ?_, fun h1 => ?_⟩
  · cases x with
    | int i =>
      walk_at "WK"
      have k2' : decide (i < 0) = true := k2
      rw [k2']
      exact ⟨fun _ => wr_raise0 ⟨rfl, rfl, rfl⟩, (fun z => nomatch z)⟩
    | _ => cases h1
  · exact ⟨fun _ => wr_raise0 ⟨rfl, rfl, rfl⟩, (fun z => nomatch z)⟩
end
section
variable {P : Program} {w : World} {K : PySem.W.Frag} {mg : Str → Option Value} {base : Heap} {f C CT : Addr} {fd : FuncData}
/-! ## require_source -/
abbrev spr_require_source (K : PySem.W.Frag) (C CT : Addr) : Sp := SpR (ι := PyData) K (fun p => [.py p]) (fun p _ => knS p ∧ isSrcP p = false) fun _ n cl fs m => cl = CT ∧ fs = none ∧ m = n
theorem lnr_require_source (p : PyData) : [D.py p].length = 1 := rfl
theorem nmr_require_source (p : PyData) : [D.py p].all D.nm = true := rfl
theorem okr_require_source (F : FnP K "require_source" "require_source" (top 61) f fd) (S_is_sourceP : Std P w K mg base 4 "is_source" ["value"] (sp_is_sourceP K)) (X_source : Ex0 K mg "InvalidSource" CT) : FnOk P w K mg base (L2.CX P w) 5 f fd ["value"] (spr_require_source K C CT) := by
  refine F.ok sc_require_source (sr_len lnr_require_source) (fun cdv A outer s H vs Q E hr h => ?_)
  have nd := sc_require_source.nd
  have tk : Takes (cxOf (L2.CX P w) P w K mg base ["value"] "require_source" (defScope (top 61)) f cdv A outer s H E) (fun cls d _ H => E cls d H) := takes_of rfl rfl rfl rfl
  refine ⟨_, (pss_one (ps_if (pt_not (truK (K := K) rfl (pe_std S_is_sourceP hr rfl (pa_cons (pv 0) (pa_nil))) (by intro _; rfl))) (pss_one (ps_raise0 rfl X_source tk)) (pss_nil))), ?_⟩
  refine body_r nmr_require_source ?_ vs H Q h
  clear h hr tk
  intro c n x hK hp
  (subst hK)
  try clear S_is_sourceP F
  obtain ⟨k1, k2⟩ : knS x ∧ isSrcP x = false := hp
  refine wr_if ?_
  walk_at "WK"
  refine ⟨x, rfl, k1, ?_⟩
  rintro d m ⟨rfl, rfl⟩
  refine ⟨rfl, ?_⟩
  rw [k2]
  walk_at "WK"
  refine ⟨fun _ => ?_, (fun z => nomatch z)⟩
  exact wr_raise0 ⟨rfl, rfl, rfl⟩
end
end Wx

/-! ### part Ki -/
set_option Elab.async false
set_option linter.all false
set_option maxRecDepth 100000
set_option maxHeartbeats 1000000
set_option autoImplicit false
/-! require_effect at what is no effect; cell_after, first_time, settles at bad arguments. -/
namespace Wx
open PySem L2
/-- a thing that is no instance of the class at C -/
structure NotEff (K : PySem.W.Frag) (C : Addr) (d : D) : Prop where
  ok : argOk d = true
  ar : arg d = d
  ty : ∃ t, (∀ c : Cy, c.K = K → Ty2 c d t) ∧ PySem.W.kitOne K t (.ref C) = some false
abbrev Dn : Type := {d : D // d.nm = true}

section
variable {P : Program} {w : World} {K : PySem.W.Frag} {mg : Str → Option Value} {base : Heap} {f C CT : Addr} {fd : FuncData}
abbrev spr_require_effect (K : PySem.W.Frag) (C CT : Addr) : Sp := SpR (ι := Dn) K (fun d => [d.1]) (fun d _ => NotEff K C d.1) fun _ n cl fs m => cl = CT ∧ fs = none ∧ m = n
theorem lnr_require_effect (d : Dn) : [d.1].length = 1 := rfl
theorem nmr_require_effect (d : Dn) : [d.1].all D.nm = true := by rw [List.all_cons, d.2]; rfl
theorem okr_require_effect (F : FnP K "require_effect" "require_effect" (top 75) f fd) (g_isinstance : mg "isinstance" = none) (kc : KitC K C) (a1 : NoAttr K C "kept_taken") (a2 : NoAttr K C "kept_left") (gE : mg "Effect" = some (.ref C)) (X_effect : Ex0 K mg "InvalidEffect" CT) : FnOk P w K mg base (L2.CX P w) 1 f fd ["value"] (spr_require_effect K C CT) := by
  refine F.ok sc_require_effect (sr_len lnr_require_effect) (fun cdv A outer s H vs Q E hr h => ?_)
  have nd := sc_require_effect.nd
  have tk : Takes (cxOf (L2.CX P w) P w K mg base ["value"] "require_effect" (defScope (top 75)) f cdv A outer s H E) (fun cls d _ H => E cls d H) := takes_of rfl rfl rfl rfl
  refine ⟨_, (pss_one (ps_if (pt_not (truK (K := K) rfl (pe_callB (isiK (K := K) rfl) rfl g_isinstance bt_isinstance (pa_cons (pv 0) (pa_cons (pe_glob (v := .ref C) rfl gE rfl) pa_nil))) (by intro _; rfl))) (pss_one (ps_raise0 rfl X_effect tk)) (pss_nil))), ?_⟩
  refine body_r nmr_require_effect ?_ vs H Q h
  clear h hr tk
  intro c n x hK hp
  (subst hK)
  try clear g_isinstance gE F
  obtain ⟨t, h1, h2⟩ := (show NotEff c.K C x.1 from hp).ty
  refine wr_if ?_
  walk_at "WK"
  refine cw_isiC rfl (h1 c rfl) h2 ?_
  walk_at "WK"
  refine ⟨fun _ => ?_, (fun z => nomatch z)⟩
  exact wr_raise0 ⟨rfl, rfl, rfl⟩
end
end Wx

/-! ### part Kj -/
set_option Elab.async false
set_option linter.all false
set_option maxRecDepth 100000
set_option maxHeartbeats 1000000
set_option autoImplicit false
/-! cell_after at bad arguments. -/
namespace Wx
open PySem L2

section
variable {P : Program} {w : World} {K : PySem.W.Frag} {mg : Str → Option Value} {base : Heap} {f C CT : Addr} {fd : FuncData}
abbrev spr_cell_afterT (K : PySem.W.Frag) (C CT : Addr) : Sp := SpR (ι := Int × List Src × PyData × PyData) K (fun x => [effD C x.1 x.2.1, .py x.2.2.1, .py x.2.2.2]) (fun x _ => kn x.2.2.1 ∧ inRP x.2.2.1 0 (10 ^ 30) = false) fun _ n cl fs m => cl = CT ∧ fs = none ∧ m = n
theorem lnr_cell_afterT (x : Int × List Src × PyData × PyData) : [effD C x.1 x.2.1, .py x.2.2.1, .py x.2.2.2].length = 3 := rfl
theorem nmr_cell_afterT (x : Int × List Src × PyData × PyData) : [effD C x.1 x.2.1, .py x.2.2.1, .py x.2.2.2].all D.nm = true := rfl
theorem okr_cell_afterT (F : FnP K "cell_after" "cell_after" (top 77) f fd) (S_require_effect : Std P w K mg base 1 "require_effect" ["value"] (sp_require_effect K C)) (R_require_times : StdE P w K mg base 3 "require_times" ["value"] (spr_require_times K C CT)) (S_require_depth : Std P w K mg base 2 "require_depth" ["value"] (sp_require_depth K)) (S_far_source : Std P w K mg base 1 "far_source" ["pair", "times", "depth"] (sp_far_source K)) (kc : KitC K C) (a1 : NoAttr K C "kept_taken") (a2 : NoAttr K C "kept_left") (gE : mg "Effect" = some (.ref C)) (P_taken : StdP P w K mg base 1 C "taken" (sp_Effect_taken K C)) (P_left : StdP P w K mg base 1 C "left" (sp_Effect_left K C)) : FnOk P w K mg base (L2.CX P w) 4 f fd ["effect", "times", "depth"] (spr_cell_afterT K C CT) := by
  refine F.ok sc_cell_after (sr_len lnr_cell_afterT) (fun cdv A outer s H vs Q E hr h => ?_)
  have nd := sc_cell_after.nd
  have tk : Takes (cxOf (L2.CX P w) P w K mg base ["effect", "times", "depth"] "cell_after" (defScope (top 77)) f cdv A outer s H E) (fun cls d _ H => E cls d H) := takes_of rfl rfl rfl rfl
  refine ⟨_, (pss_cons (ps_expr (pe_std S_require_effect (hr.mono (by decide)) rfl (pa_cons (pv 0) (pa_nil))))
 (pss_cons (ps_expr (pe_stdE R_require_times hr tk rfl (pa_cons (pv 1) (pa_nil))))
 (pss_cons (ps_expr (pe_std S_require_depth (hr.mono (by decide)) rfl (pa_cons (pv 2) (pa_nil))))
 (pss_one (ps_ret (pe_std S_far_source (hr.mono (by decide)) rfl (pa_cons (pe_tup (pa_cons (pe_propS P_taken kc.cl (hr.mono (by decide)) (pv 0) rfl) (pa_cons (pe_propS P_left kc.cl (hr.mono (by decide)) (pv 0) rfl) (pa_nil)))) (pa_cons (pv 1) (pa_cons (pv 2) (pa_nil)))))))))), ?_⟩
  refine body_r nmr_cell_afterT ?_ vs H Q h
  clear h hr tk
  intro c n x hK hp
  (subst hK)
  try clear S_require_effect R_require_times S_require_depth S_far_source gE P_taken P_left F
  obtain ⟨t, l, p, q⟩ := x
  obtain ⟨k1, k2⟩ : kn p ∧ inRP p 0 (10 ^ 30) = false := hp
  refine wr_seq2 ?_
  walk_at "WK"
  refine ⟨(t, l), rfl, trivial, ?_⟩
  rintro d m ⟨rfl, rfl⟩
  refine ⟨rfl, ?_⟩
  refine wr_seq1 (wr_drop (wq_callE rfl ?_))
  walk_at "WK"
  refine ⟨p, rfl, ⟨k1, k2⟩, ?_⟩
  rintro cl fs m ⟨rfl, rfl, rfl⟩
  exact ⟨rfl, rfl, rfl⟩
end
end Wx

/-! ### part Kk -/
set_option Elab.async false
set_option linter.all false
set_option maxRecDepth 100000
set_option maxHeartbeats 1000000
set_option autoImplicit false
/-! cell_after at what is no effect, and at a bad depth. -/
namespace Wx
open PySem L2

section
variable {P : Program} {w : World} {K : PySem.W.Frag} {mg : Str → Option Value} {base : Heap} {f C CT : Addr} {fd : FuncData}
abbrev spr_cell_afterE (K : PySem.W.Frag) (C CT : Addr) : Sp := SpR (ι := Dn × PyData × PyData) K (fun x => [x.1.1, .py x.2.1, .py x.2.2]) (fun x _ => NotEff K C x.1.1) fun _ n cl fs m => cl = CT ∧ fs = none ∧ m = n
theorem lnr_cell_afterE (x : Dn × PyData × PyData) : [x.1.1, .py x.2.1, .py x.2.2].length = 3 := rfl
theorem nmr_cell_afterE (x : Dn × PyData × PyData) : [x.1.1, .py x.2.1, .py x.2.2].all D.nm = true := by rw [List.all_cons, x.1.2]; rfl
theorem okr_cell_afterE (F : FnP K "cell_after" "cell_after" (top 77) f fd) (R_require_effect : StdE P w K mg base 1 "require_effect" ["value"] (spr_require_effect K C CT)) (S_require_times : Std P w K mg base 3 "require_times" ["value"] (sp_require_times K)) (S_require_depth : Std P w K mg base 2 "require_depth" ["value"] (sp_require_depth K)) (S_far_source : Std P w K mg base 1 "far_source" ["pair", "times", "depth"] (sp_far_source K)) (kc : KitC K C) (a1 : NoAttr K C "kept_taken") (a2 : NoAttr K C "kept_left") (gE : mg "Effect" = some (.ref C)) (P_taken : StdP P w K mg base 1 C "taken" (sp_Effect_taken K C)) (P_left : StdP P w K mg base 1 C "left" (sp_Effect_left K C)) : FnOk P w K mg base (L2.CX P w) 4 f fd ["effect", "times", "depth"] (spr_cell_afterE K C CT) := by
  refine F.ok sc_cell_after (sr_len lnr_cell_afterE) (fun cdv A outer s H vs Q E hr h => ?_)
  have nd := sc_cell_after.nd
  have tk : Takes (cxOf (L2.CX P w) P w K mg base ["effect", "times", "depth"] "cell_after" (defScope (top 77)) f cdv A outer s H E) (fun cls d _ H => E cls d H) := takes_of rfl rfl rfl rfl
  refine ⟨_, (pss_cons (ps_expr (pe_stdE R_require_effect (hr.mono (by decide)) tk rfl (pa_cons (pv 0) (pa_nil))))
 (pss_cons (ps_expr (pe_std S_require_times hr rfl (pa_cons (pv 1) (pa_nil))))
 (pss_cons (ps_expr (pe_std S_require_depth (hr.mono (by decide)) rfl (pa_cons (pv 2) (pa_nil))))
 (pss_one (ps_ret (pe_std S_far_source (hr.mono (by decide)) rfl (pa_cons (pe_tup (pa_cons (pe_propS P_taken kc.cl (hr.mono (by decide)) (pv 0) rfl) (pa_cons (pe_propS P_left kc.cl (hr.mono (by decide)) (pv 0) rfl) (pa_nil)))) (pa_cons (pv 1) (pa_cons (pv 2) (pa_nil)))))))))), ?_⟩
  refine body_r nmr_cell_afterE ?_ vs H Q h
  clear h hr tk
  intro c n x hK hp
  (subst hK)
  try clear R_require_effect S_require_times S_require_depth S_far_source gE P_taken P_left F
  obtain ⟨⟨d, hd⟩, p, q⟩ := x
  have ne : NotEff c.K C d := hp
  refine wr_seq1 (wr_drop (wq_callE rfl ?_))
  walk_at "WK"
  refine ⟨by rw [List.all_cons, ne.ok]; rfl, ⟨d, hd⟩, by rw [List.map_cons, ne.ar]; rfl, ne, ?_⟩
  rintro cl fs m ⟨rfl, rfl, rfl⟩
  exact ⟨rfl, rfl, rfl⟩
abbrev spr_cell_afterD (K : PySem.W.Frag) (C CT : Addr) : Sp := SpR (ι := Int × List Src × Nat × PyData) K (fun x => [effD C x.1 x.2.1, .py (.int (x.2.2.1 : Int)), .py x.2.2.2]) (fun x _ => x.2.2.1 ≤ 10 ^ 30 ∧ kn x.2.2.2 ∧ badDp x.2.2.2 = true) fun _ n cl fs m => cl = CT ∧ fs = none ∧ m = n
theorem lnr_cell_afterD (x : Int × List Src × Nat × PyData) : [effD C x.1 x.2.1, .py (.int (x.2.2.1 : Int)), .py x.2.2.2].length = 3 := rfl
theorem nmr_cell_afterD (x : Int × List Src × Nat × PyData) : [effD C x.1 x.2.1, .py (.int (x.2.2.1 : Int)), .py x.2.2.2].all D.nm = true := rfl
theorem okr_cell_afterD (F : FnP K "cell_after" "cell_after" (top 77) f fd) (S_require_effect : Std P w K mg base 1 "require_effect" ["value"] (sp_require_effect K C)) (S_require_times : Std P w K mg base 3 "require_times" ["value"] (sp_require_times K)) (R_require_depth : StdE P w K mg base 2 "require_depth" ["value"] (spr_require_depth K C CT)) (S_far_source : Std P w K mg base 1 "far_source" ["pair", "times", "depth"] (sp_far_source K)) (kc : KitC K C) (a1 : NoAttr K C "kept_taken") (a2 : NoAttr K C "kept_left") (gE : mg "Effect" = some (.ref C)) (P_taken : StdP P w K mg base 1 C "taken" (sp_Effect_taken K C)) (P_left : StdP P w K mg base 1 C "left" (sp_Effect_left K C)) : FnOk P w K mg base (L2.CX P w) 4 f fd ["effect", "times", "depth"] (spr_cell_afterD K C CT) := by
  refine F.ok sc_cell_after (sr_len lnr_cell_afterD) (fun cdv A outer s H vs Q E hr h => ?_)
  have nd := sc_cell_after.nd
  have tk : Takes (cxOf (L2.CX P w) P w K mg base ["effect", "times", "depth"] "cell_after" (defScope (top 77)) f cdv A outer s H E) (fun cls d _ H => E cls d H) := takes_of rfl rfl rfl rfl
  refine ⟨_, (pss_cons (ps_expr (pe_std S_require_effect (hr.mono (by decide)) rfl (pa_cons (pv 0) (pa_nil))))
 (pss_cons (ps_expr (pe_std S_require_times hr rfl (pa_cons (pv 1) (pa_nil))))
 (pss_cons (ps_expr (pe_stdE R_require_depth (hr.mono (by decide)) tk rfl (pa_cons (pv 2) (pa_nil))))
 (pss_one (ps_ret (pe_std S_far_source (hr.mono (by decide)) rfl (pa_cons (pe_tup (pa_cons (pe_propS P_taken kc.cl (hr.mono (by decide)) (pv 0) rfl) (pa_cons (pe_propS P_left kc.cl (hr.mono (by decide)) (pv 0) rfl) (pa_nil)))) (pa_cons (pv 1) (pa_cons (pv 2) (pa_nil)))))))))), ?_⟩
  refine body_r nmr_cell_afterD ?_ vs H Q h
  clear h hr tk
  intro c n x hK hp
  (subst hK)
  try clear S_require_effect S_require_times R_require_depth S_far_source gE P_taken P_left F
  obtain ⟨t, l, i, q⟩ := x
  obtain ⟨h1, k1, k2⟩ : i ≤ 10 ^ 30 ∧ kn q ∧ badDp q = true := hp
  refine wr_seq2 ?_
  walk_at "WK"
  refine ⟨(t, l), rfl, trivial, ?_⟩
  rintro d m ⟨rfl, rfl⟩
  refine ⟨rfl, ?_⟩
  refine wr_seq2 ?_
  walk_at "WK"
  refine ⟨i, rfl, h1, ?_⟩
  rintro d m ⟨rfl, rfl⟩
  refine ⟨rfl, ?_⟩
  refine wr_seq1 (wr_drop (wq_callE rfl ?_))
  walk_at "WK"
  refine ⟨q, rfl, ⟨k1, k2⟩, ?_⟩
  rintro cl fs m ⟨rfl, rfl, rfl⟩
  exact ⟨rfl, rfl, rfl⟩
/-! ## first_time -/
abbrev spr_first_timeE (K : PySem.W.Frag) (C CT : Addr) : Sp := SpR (ι := Dn × PyData × PyData) K (fun x => [x.1.1, .py x.2.1, .py x.2.2]) (fun x _ => NotEff K C x.1.1) fun _ n cl fs m => cl = CT ∧ fs = none ∧ m = n
theorem lnr_first_timeE (x : Dn × PyData × PyData) : [x.1.1, .py x.2.1, .py x.2.2].length = 3 := rfl
theorem nmr_first_timeE (x : Dn × PyData × PyData) : [x.1.1, .py x.2.1, .py x.2.2].all D.nm = true := by rw [List.all_cons, x.1.2]; rfl
theorem okr_first_timeE (F : FnP K "first_time" "first_time" (top 79) f fd) (R_require_effect : StdE P w K mg base 1 "require_effect" ["value"] (spr_require_effect K C CT)) (S_require_depth : Std P w K mg base 2 "require_depth" ["value"] (sp_require_depth K)) (S_require_source : Std P w K mg base 5 "require_source" ["value"] (sp_require_source K)) (S_first_in : Std P w K mg base 1 "first_in" ["pair", "depth", "source"] (sp_first_in K)) (kc : KitC K C) (a1 : NoAttr K C "kept_taken") (a2 : NoAttr K C "kept_left") (gE : mg "Effect" = some (.ref C)) (P_taken : StdP P w K mg base 1 C "taken" (sp_Effect_taken K C)) (P_left : StdP P w K mg base 1 C "left" (sp_Effect_left K C)) : FnOk P w K mg base (L2.CX P w) 6 f fd ["effect", "depth", "source"] (spr_first_timeE K C CT) := by
  refine F.ok sc_first_time (sr_len lnr_first_timeE) (fun cdv A outer s H vs Q E hr h => ?_)
  have nd := sc_first_time.nd
  have tk : Takes (cxOf (L2.CX P w) P w K mg base ["effect", "depth", "source"] "first_time" (defScope (top 79)) f cdv A outer s H E) (fun cls d _ H => E cls d H) := takes_of rfl rfl rfl rfl
  refine ⟨_, (pss_cons (ps_expr (pe_stdE R_require_effect (hr.mono (by decide)) tk rfl (pa_cons (pv 0) (pa_nil))))
 (pss_cons (ps_expr (pe_std S_require_depth (hr.mono (by decide)) rfl (pa_cons (pv 1) (pa_nil))))
 (pss_cons (ps_expr (pe_std S_require_source hr rfl (pa_cons (pv 2) (pa_nil))))
 (pss_one (ps_ret (pe_std S_first_in (hr.mono (by decide)) rfl (pa_cons (pe_tup (pa_cons (pe_propS P_taken kc.cl (hr.mono (by decide)) (pv 0) rfl) (pa_cons (pe_propS P_left kc.cl (hr.mono (by decide)) (pv 0) rfl) (pa_nil)))) (pa_cons (pv 1) (pa_cons (pv 2) (pa_nil)))))))))), ?_⟩
  refine body_r nmr_first_timeE ?_ vs H Q h
  clear h hr tk
  intro c n x hK hp
  (subst hK)
  try clear R_require_effect S_require_depth S_require_source S_first_in gE P_taken P_left F
  obtain ⟨⟨d, hd⟩, p, q⟩ := x
  have ne : NotEff c.K C d := hp
  refine wr_seq1 (wr_drop (wq_callE rfl ?_))
  walk_at "WK"
  refine ⟨by rw [List.all_cons, ne.ok]; rfl, ⟨d, hd⟩, by rw [List.map_cons, ne.ar]; rfl, ne, ?_⟩
  rintro cl fs m ⟨rfl, rfl, rfl⟩
  exact ⟨rfl, rfl, rfl⟩
abbrev spr_first_timeD (K : PySem.W.Frag) (C CT : Addr) : Sp := SpR (ι := Int × List Src × PyData × PyData) K (fun x => [effD C x.1 x.2.1, .py x.2.2.1, .py x.2.2.2]) (fun x _ => kn x.2.2.1 ∧ badDp x.2.2.1 = true) fun _ n cl fs m => cl = CT ∧ fs = none ∧ m = n
theorem lnr_first_timeD (x : Int × List Src × PyData × PyData) : [effD C x.1 x.2.1, .py x.2.2.1, .py x.2.2.2].length = 3 := rfl
theorem nmr_first_timeD (x : Int × List Src × PyData × PyData) : [effD C x.1 x.2.1, .py x.2.2.1, .py x.2.2.2].all D.nm = true := rfl
theorem okr_first_timeD (F : FnP K "first_time" "first_time" (top 79) f fd) (S_require_effect : Std P w K mg base 1 "require_effect" ["value"] (sp_require_effect K C)) (R_require_depth : StdE P w K mg base 2 "require_depth" ["value"] (spr_require_depth K C CT)) (S_require_source : Std P w K mg base 5 "require_source" ["value"] (sp_require_source K)) (S_first_in : Std P w K mg base 1 "first_in" ["pair", "depth", "source"] (sp_first_in K)) (kc : KitC K C) (a1 : NoAttr K C "kept_taken") (a2 : NoAttr K C "kept_left") (gE : mg "Effect" = some (.ref C)) (P_taken : StdP P w K mg base 1 C "taken" (sp_Effect_taken K C)) (P_left : StdP P w K mg base 1 C "left" (sp_Effect_left K C)) : FnOk P w K mg base (L2.CX P w) 6 f fd ["effect", "depth", "source"] (spr_first_timeD K C CT) := by
  refine F.ok sc_first_time (sr_len lnr_first_timeD) (fun cdv A outer s H vs Q E hr h => ?_)
  have nd := sc_first_time.nd
  have tk : Takes (cxOf (L2.CX P w) P w K mg base ["effect", "depth", "source"] "first_time" (defScope (top 79)) f cdv A outer s H E) (fun cls d _ H => E cls d H) := takes_of rfl rfl rfl rfl
  refine ⟨_, (pss_cons (ps_expr (pe_std S_require_effect (hr.mono (by decide)) rfl (pa_cons (pv 0) (pa_nil))))
 (pss_cons (ps_expr (pe_stdE R_require_depth (hr.mono (by decide)) tk rfl (pa_cons (pv 1) (pa_nil))))
 (pss_cons (ps_expr (pe_std S_require_source hr rfl (pa_cons (pv 2) (pa_nil))))
 (pss_one (ps_ret (pe_std S_first_in (hr.mono (by decide)) rfl (pa_cons (pe_tup (pa_cons (pe_propS P_taken kc.cl (hr.mono (by decide)) (pv 0) rfl) (pa_cons (pe_propS P_left kc.cl (hr.mono (by decide)) (pv 0) rfl) (pa_nil)))) (pa_cons (pv 1) (pa_cons (pv 2) (pa_nil)))))))))), ?_⟩
  refine body_r nmr_first_timeD ?_ vs H Q h
  clear h hr tk
  intro c n x hK hp
  (subst hK)
  try clear S_require_effect R_require_depth S_require_source S_first_in gE P_taken P_left F
  obtain ⟨t, l, p, q⟩ := x
  obtain ⟨k1, k2⟩ : kn p ∧ badDp p = true := hp
  refine wr_seq2 ?_
  walk_at "WK"
  refine ⟨(t, l), rfl, trivial, ?_⟩
  rintro d m ⟨rfl, rfl⟩
  refine ⟨rfl, ?_⟩
  refine wr_seq1 (wr_drop (wq_callE rfl ?_))
  walk_at "WK"
  refine ⟨p, rfl, ⟨k1, k2⟩, ?_⟩
  rintro cl fs m ⟨rfl, rfl, rfl⟩
  exact ⟨rfl, rfl, rfl⟩
abbrev spr_first_timeS (K : PySem.W.Frag) (C CT : Addr) : Sp := SpR (ι := Int × List Src × Int × PyData) K (fun x => [effD C x.1 x.2.1, .py (.int x.2.2.1), .py x.2.2.2]) (fun x _ => 0 ≤ x.2.2.1 ∧ knS x.2.2.2 ∧ isSrcP x.2.2.2 = false) fun _ n cl fs m => cl = CT ∧ fs = none ∧ m = n
theorem lnr_first_timeS (x : Int × List Src × Int × PyData) : [effD C x.1 x.2.1, .py (.int x.2.2.1), .py x.2.2.2].length = 3 := rfl
theorem nmr_first_timeS (x : Int × List Src × Int × PyData) : [effD C x.1 x.2.1, .py (.int x.2.2.1), .py x.2.2.2].all D.nm = true := rfl
theorem okr_first_timeS (F : FnP K "first_time" "first_time" (top 79) f fd) (S_require_effect : Std P w K mg base 1 "require_effect" ["value"] (sp_require_effect K C)) (S_require_depth : Std P w K mg base 2 "require_depth" ["value"] (sp_require_depth K)) (R_require_source : StdE P w K mg base 5 "require_source" ["value"] (spr_require_source K C CT)) (S_first_in : Std P w K mg base 1 "first_in" ["pair", "depth", "source"] (sp_first_in K)) (kc : KitC K C) (a1 : NoAttr K C "kept_taken") (a2 : NoAttr K C "kept_left") (gE : mg "Effect" = some (.ref C)) (P_taken : StdP P w K mg base 1 C "taken" (sp_Effect_taken K C)) (P_left : StdP P w K mg base 1 C "left" (sp_Effect_left K C)) : FnOk P w K mg base (L2.CX P w) 6 f fd ["effect", "depth", "source"] (spr_first_timeS K C CT) := by
  refine F.ok sc_first_time (sr_len lnr_first_timeS) (fun cdv A outer s H vs Q E hr h => ?_)
  have nd := sc_first_time.nd
  have tk : Takes (cxOf (L2.CX P w) P w K mg base ["effect", "depth", "source"] "first_time" (defScope (top 79)) f cdv A outer s H E) (fun cls d _ H => E cls d H) := takes_of rfl rfl rfl rfl
  refine ⟨_, (pss_cons (ps_expr (pe_std S_require_effect (hr.mono (by decide)) rfl (pa_cons (pv 0) (pa_nil))))
 (pss_cons (ps_expr (pe_std S_require_depth (hr.mono (by decide)) rfl (pa_cons (pv 1) (pa_nil))))
 (pss_cons (ps_expr (pe_stdE R_require_source hr tk rfl (pa_cons (pv 2) (pa_nil))))
 (pss_one (ps_ret (pe_std S_first_in (hr.mono (by decide)) rfl (pa_cons (pe_tup (pa_cons (pe_propS P_taken kc.cl (hr.mono (by decide)) (pv 0) rfl) (pa_cons (pe_propS P_left kc.cl (hr.mono (by decide)) (pv 0) rfl) (pa_nil)))) (pa_cons (pv 1) (pa_cons (pv 2) (pa_nil)))))))))), ?_⟩
  refine body_r nmr_first_timeS ?_ vs H Q h
  clear h hr tk
  intro c n x hK hp
  (subst hK)
  try clear S_require_effect S_require_depth R_require_source S_first_in gE P_taken P_left F
  obtain ⟨t, l, i, q⟩ := x
  obtain ⟨h1, k1, k2⟩ : 0 ≤ i ∧ knS q ∧ isSrcP q = false := hp
  refine wr_seq2 ?_
  walk_at "WK"
  refine ⟨(t, l), rfl, trivial, ?_⟩
  rintro d m ⟨rfl, rfl⟩
  refine ⟨rfl, ?_⟩
  refine wr_seq2 ?_
  walk_at "WK"
  refine ⟨i, rfl, h1, ?_⟩
  rintro d m ⟨rfl, rfl⟩
  refine ⟨rfl, ?_⟩
  refine wr_seq1 (wr_drop (wq_callE rfl ?_))
  walk_at "WK"
  refine ⟨q, rfl, ⟨k1, k2⟩, ?_⟩
  rintro cl fs m ⟨rfl, rfl, rfl⟩
  exact ⟨rfl, rfl, rfl⟩
end
end Wx

/-! ### part Kl -/
set_option Elab.async false
set_option linter.all false
set_option maxRecDepth 100000
set_option maxHeartbeats 1000000
set_option autoImplicit false
/-! repr of a list in which the empty dict may stand. -/
namespace Wx
open PySem L2 PyProof.Rows
section
variable {X : Cx} {pins : List (Addr × Obj)} {σ : L2.St} {H : Hp} {s : Shared} {S : Addr → Prop}
mutual
theorem Da.road (I : Inv X pins σ H s) : ∀ (d : PyData) (v : V) (u : Value), Da X.K S H v d → RelV v u → d.showable = true → d.shown.length ≤ sizeLine →
    (∃ as, Reads s.heap u d as) ∧ ∃ bs, ReadAtMost s.heap d.depth bs ∧ ReprK X.prog X.w bs s.heap d.depth u d.shown
  | .none, v, u, h, r, hs, hz => by
    obtain ⟨as, q⟩ := Dp.reads I _ v u (h.dp (by simp only [PyData.hasDict])) r
    exact ⟨⟨as, q⟩, ReprK.of_reads q hs (fun z => by simp only [PyData.hasDict] at z; cases z) hz⟩
  | .bool b, v, u, h, r, hs, hz => by
    obtain ⟨as, q⟩ := Dp.reads I _ v u (h.dp (by simp only [PyData.hasDict])) r
    exact ⟨⟨as, q⟩, ReprK.of_reads q hs (fun z => by simp only [PyData.hasDict] at z; cases z) hz⟩
  | .int i, v, u, h, r, hs, hz => by
    obtain ⟨as, q⟩ := Dp.reads I _ v u (h.dp (by simp only [PyData.hasDict])) r
    exact ⟨⟨as, q⟩, ReprK.of_reads q hs (fun z => by simp only [PyData.hasDict] at z; cases z) hz⟩
  | .str x, v, u, h, r, hs, hz => by
    obtain ⟨as, q⟩ := Dp.reads I _ v u (h.dp (by simp only [PyData.hasDict])) r
    exact ⟨⟨as, q⟩, ReprK.of_reads q hs (fun z => by simp only [PyData.hasDict] at z; cases z) hz⟩
  | .dict [], v, u, h, r, hs, hz => by
    cases h with
    | @ed a n e =>
      cases r
      obtain ⟨_, hm, vs, kv, o, es, ep, e1, e2, e3, e4⟩ := dk_of I.hok e
      cases kv
      have ez : es.toList = [] := by
        obtain ⟨_, z, _⟩ := e4
        revert z
        generalize es.toList = l
        intro z
        cases z
        rfl
      have q : Reads s.heap (.ref a) (.dict []) (a :: [] ++ []) := .dict e1 e2.1 e3 (by rw [ez]; exact ReadsAll.nil) (by rw [ez]; exact ReadsAll.nil)
      exact ⟨⟨_, q⟩, ReprK.of_reads q hs (fun z y => by simp at y; rw [← y] at hm; simp at hm) hz⟩
  | .dict (_ :: _), v, u, h, r, hs, hz => by cases h
  | .list ds, v, u, h, r, hs, hz => by
    have hz' : (listText (PyData.shownAll ds)).length ≤ sizeLine := by simpa only [PyData.shown] using hz
    obtain ⟨a, xs, rfl, sq, hl⟩ : ∃ a xs, v = .ref a ∧ SqL X.K H a xs ∧ DaL X.K S H xs ds := by
      cases h with
      | lst n e t => exact ⟨_, _, rfl, .inl e, t⟩
      | lstK e t => exact ⟨_, _, rfl, e H, t⟩
    cases r
    obtain ⟨its, rv, ⟨o, n, ho, hc, _, hd⟩, _⟩ := I.list sq
    obtain ⟨⟨as, q⟩, bs, hb, hk⟩ := DaL.road I ds xs its hl rv (by simpa [PyData.showable] using hs) (fun t ht => Nat.le_trans (listText_mem_le ht) hz')
    have rd : Reads s.heap (.ref a) (.list ds) _ := .list ho hc hd q
    have hna : a ∉ bs := not_mem_of_deeper rd (by simp only [PyData.depth]; omega) hb
    refine ⟨⟨_, rd⟩, a :: bs, ReadAtMost.cons rd (by simp only [PyData.depth]; omega) hb, ?_⟩
    simp only [PyData.depth, PyData.shown]
    cases its with
    | nil =>
      have h4' : ReadsAll s.heap [] ds _ := q
      cases h4'
      simp only [PyData.shownAll, listText_nil]
      exact ReprK.listEmpty ho hc hd
    | cons x l => exact ReprK.list ho hc hd hna (by simpa using hk.length_eq) (fun i y e => hk.item i y (by simpa using e))
  | .tuple ds, v, u, h, r, hs, hz => by
    have hz' : (tupleText (PyData.shownAll ds)).length ≤ sizeLine := by simpa only [PyData.shown] using hz
    obtain ⟨a, xs, rfl, sq, hl⟩ : ∃ a xs, v = .ref a ∧ SqT X.K H a xs ∧ DaL X.K S H xs ds := by
      cases h with
      | tup n e t => exact ⟨_, _, rfl, .inl e, t⟩
      | tupK e t => exact ⟨_, _, rfl, e H, t⟩
    cases r
    obtain ⟨its, rv, ⟨o, ho, hc, n, hd⟩, _⟩ := I.tuple sq
    obtain ⟨⟨as, q⟩, bs, hb, hk⟩ := DaL.road I ds xs its hl rv (by simpa [PyData.showable] using hs) (fun t ht => Nat.le_trans (tupleText_mem_le ht) hz')
    have rd : Reads s.heap (.ref a) (.tuple ds) _ := .tuple ho hc hd q
    have hna : a ∉ bs := not_mem_of_deeper rd (by simp only [PyData.depth]; omega) hb
    refine ⟨⟨_, rd⟩, a :: bs, ReadAtMost.cons rd (by simp only [PyData.depth]; omega) hb, ?_⟩
    simp only [PyData.depth, PyData.shown]
    exact ReprK.tuple ho hc hd hna hk
theorem DaL.road (I : Inv X pins σ H s) : ∀ (ds : List PyData) (vs : List V) (us : List Value), DaL X.K S H vs ds → Vals vs us → PyData.showableAll ds = true → (∀ t ∈ PyData.shownAll ds, t.length ≤ sizeLine) →
    (∃ as, ReadsAll s.heap us ds as) ∧ ∃ bs, ReadAtMost s.heap (PyData.depthAll ds) bs ∧ ReprAllK X.prog X.w bs s.heap (PyData.depthAll ds) us (PyData.shownAll ds)
  | [], _, _, h, r, _, _ => by
    cases h
    cases r
    exact ⟨⟨_, ReadsAll.nil⟩, [], (fun _ h => nomatch h), by simp only [PyData.shownAll]; exact .nil⟩
  | d :: ds, _, _, h, r, hs, hz => by
    cases h with
    | cons h1 h2 =>
      cases r with
      | cons r1 r2 =>
        have hs' : d.showable = true ∧ PyData.showableAll ds = true := by simpa [PyData.showableAll] using hs
        obtain ⟨⟨as, q1⟩, b1, hb1, k1⟩ := Da.road I d _ _ h1 r1 hs'.1 (hz _ (by simp only [PyData.shownAll]; exact List.mem_cons_self ..))
        obtain ⟨⟨bs, q2⟩, b2, hb2, k2⟩ := DaL.road I ds _ _ h2 r2 hs'.2 (fun t ht => hz t (by simp only [PyData.shownAll]; exact List.mem_cons_of_mem _ ht))
        refine ⟨⟨_, ReadsAll.cons q1 q2⟩, b1 ++ b2, ?_, ?_⟩
        · simp only [PyData.depthAll]
          exact (hb1.mono (Nat.le_max_left _ _)).append (hb2.mono (Nat.le_max_right _ _))
        · simp only [PyData.depthAll, PyData.shownAll]
          exact .cons ((k1.more fun b hb => List.mem_append_left _ hb).level_le (Nat.le_max_left _ _)) (k2.more_le (fun b hb => List.mem_append_right _ hb) (Nat.le_max_right _ _))
end
end
def rREPD (K : PySem.W.Frag) : List V → Hp → VK → Prop := fun xs H Q => ∃ a ds S, xs = [.ref a] ∧ Da K S H (.ref a) (.list ds) ∧ PyData.showableAll ds = true ∧ (PyData.list ds).shown.length ≤ sizeLine ∧ (PyData.list ds).depth ≤ 60 ∧ Q (.str (PyData.list ds).shown) H
theorem reprDK {X : Cx} {K : PySem.W.Frag} {k : Nat} (hK : X.K = K) (gd : X.A.guards = some []) (hr : Room k X.A) : CallR X (.builtin "repr") (rREPD K) := by
  subst hK
  intro pins s σ H xs us Q I r h
  obtain ⟨a, ds, S, rfl, hd, h1, hz, h4, q⟩ := h
  cases r with
  | cons r1 r2 =>
    cases r2
    cases r1
    have hz' : (listText (PyData.shownAll ds)).length ≤ sizeLine := by simpa only [PyData.shown] using hz
    obtain ⟨xs, sq, hl⟩ : ∃ xs, SqL X.K H a xs ∧ DaL X.K S H xs ds := by
      cases hd with
      | lst n e t => exact ⟨_, .inl e, t⟩
      | lstK e t => exact ⟨_, e H, t⟩
    obtain ⟨its, rv, ⟨o, n, ho, hc, _, hd'⟩, _⟩ := I.list sq
    obtain ⟨⟨as, q2⟩, bs, hb, hk⟩ := DaL.road I ds xs its hl rv h1 (fun t ht => Nat.le_trans (listText_mem_le ht) hz')
    have rd : Reads s.heap (.ref a) (.list ds) _ := .list ho hc hd' q2
    have hna : a ∉ bs := not_mem_of_deeper rd (by simp only [PyData.depth]; omega) hb
    have SB : ShowsBy X.prog X.w s.heap a (.list ds) "list" "list.__repr__" := by
      refine ⟨F.slot_list_repr.toG, F.slot_list_str, F.slot_list_format, fun s hk0 => ⟨o, hk0 _ _ ho, hc⟩, fun A E s Q hg hu hk0 hQ => ?_⟩
      simp only [PyData.depth] at hu
      simp only [PyData.shown] at hQ
      cases its with
      | nil =>
        have h4' : ReadsAll _ [] ds _ := q2
        cases h4'
        simp only [PyData.shownAll, listText_nil] at hQ
        exact call_list_repr_empty ⟨o, hk0 _ _ ho, hc⟩ (hk0 _ _ ho) hd' (hQ s.heap _ _ fun _ _ e => e)
      | cons x l =>
        exact call_list_reprK ho hc hd' hna (by simpa using hk.length_eq) (fun i y e => hk.item i y (by simpa using e)) hg (fun b _ => Clear.nil b) hu hk0 hQ hz'
    have un := hr.un
    exact call_repr_slot (by omega) (SB.typeIs s fun _ _ e => e) SB.slotRepr (SB.call _ _ s _ gd (by show X.A.units + 1 + _ < cLine; omega) (fun _ _ e => e) fun h' u tk hk2 => ⟨_, _, rfl, ⟨.str (PyData.list ds).shown, H, I.kept (t' := tk) hk2, ⟨_, rfl⟩, q⟩⟩)
end Wx

/-! ### part Kn -/
set_option Elab.async false
set_option linter.all false
set_option maxRecDepth 100000
set_option maxHeartbeats 1000000
set_option autoImplicit false
/-! The empty dict as data; repr of lists in which it stands; calls that raise one of several. -/
namespace Wx
open PySem L2
section
variable {c : Cy} {sl : List Slo} {nn n : Nat} {Φ : D → Nat → Prop} {K : PySem.W.Frag} {ta : TA} {W : WX}
theorem wp_ed (h : Φ (.py (.dict [])) nn) : Wp c tDNewK ⟨sl, nn⟩ Φ := ⟨fun σ A H o Q k => fun p hp => k (.ref p) _ _ nn h (Ek.new hp) (o.good.new hp) (.ed (o.fresh hp) upd_same)⟩
theorem pys_out {ds : List D} {es : List PyData} {k : List PyData → Prop} (h : Pys ds fun ps => k (.list es :: ps)) : Pys (outO (.lst es) :: ds) k := h
/-- own list + new list, a new list of one's own -/
theorem wn_catO {Ψ : Ow → Nat → Prop} {i : Nat} {tb : TE} {ds : List PyData} (hi : sl[i]? = some (.own (.lst ds))) (h : Wn c tb ⟨sl, nn⟩ fun u m => ∃ es, u = .lst es ∧ ds.length + es.length ≤ sizeLine ∧ Ψ (.lst (ds ++ es)) m) : Wn c (tOp (rADD K) (tVar i) tb) ⟨sl, nn⟩ Ψ := ⟨fun σ A H o Q k => by
  obtain ⟨a, h1, _, _⟩ := o.own i _ hi
  refine ⟨.ref a, h1, h.run σ A H o _ fun p2 H2 u m q e2 g2 f2 t2 => ?_⟩
  obtain ⟨es, rfl, hz, q⟩ := q
  obtain ⟨zs, r2, y2⟩ := t2
  have o2 := o.keep e2 g2
  obtain ⟨a', h1', ⟨xs, h2, h3⟩, h4⟩ := o2.own i _ hi
  rw [h1] at h1'; cases h1'
  have d2 : DaL c.K A H2 zs es := y2.less fun a z => .inl z
  refine .inr (.inr (.inl ⟨a, p2, xs, zs, rfl, rfl, h2, r2, by rw [h3.len, d2.len]; exact hz, fun p hp => ?_⟩))
  exact k p _ _ m q (e2.trans (Ek.new hp)) (g2.new hp) (fresh_of e2 g2 hp) ⟨xs ++ zs, upd_same, lay (h3.append d2) hp⟩⟩
structure ShX (k W : Nat) (d : PyData) : Prop where
  sh : d.showable = true
  lv : d.leavesShort 80 = true
  dp : d.depth ≤ k
  wt : d.weight ≤ W
theorem Sh.x {k W : Nat} {d : PyData} (h : Sh k W d) : ShX k W d := ⟨h.sh, h.lv, h.dp, h.wt⟩
theorem ShX.len {k W : Nat} {d : PyData} (h : ShX k W d) (hW : W ≤ 200000) : d.shown.length ≤ sizeLine := by
  have h1 := PyData.shown_le 80 (by decide) d h.lv
  have h2 := h.wt
  have e : sizeLine = 16777216 := by decide
  rw [e]
  have h3 : (80 + 2) * d.weight ≤ 82 * 200000 := Nat.mul_le_mul_left 82 (Nat.le_trans h2 hW)
  omega
theorem shX_two {k W V : Nat} {p q : PyData} (h : ShX k W p) (g : ShX k V q) : ShX (k + 1) (W + V + 2) (.list [p, q]) := by
  refine ⟨?_, ?_, ?_, ?_⟩
  · simp only [PyData.showable, PyData.showableAll, h.sh, g.sh, Bool.and_self]
  · simp only [PyData.leavesShort, PyData.leavesShortAll, h.lv, g.lv, Bool.and_self]
  · have := h.dp
    have := g.dp
    simp only [PyData.depth, PyData.depthAll]
    omega
  · have := h.wt
    have := g.wt
    simp only [PyData.weight, PyData.weightAll]
    omega
theorem cw_reprD {ds : List PyData} {k W : Nat} (hK : K = c.K) (hs : ShX k W (.list ds)) (h1 : k ≤ 60) (h2 : W ≤ 200000) (h : Φ (.py (.str (PyData.list ds).shown)) n) : Cw c (rREPD K) [.py (.list ds)] n Φ := ⟨fun A H vs a x Q k' => by
  subst hK
  match vs, x with
  | [v], ⟨xv, _⟩ =>
    have y : Da c.K A H v (.list ds) := xv
    obtain ⟨b, rfl⟩ : ∃ b, v = .ref b := by
      cases y <;> exact ⟨_, rfl⟩
    exact ⟨b, ds, A, rfl, y, by have z := hs.sh; rwa [PyData.showable] at z, hs.len h2, Nat.le_trans hs.dp h1, k' _ H _ n h Ek.refl a.good (.str _)⟩⟩
/-- a call that may raise one of several: it does not -/
theorem wp_callM {ι : Type} {ar : ι → List D} {pre : ι → Nat → Prop} {post : ι → Nat → D → Nat → Prop} {S : Sp} (hS : ∀ vs H Q E, SpX K ar pre post vs H Q E → S vs H Q E) (hK : K = c.K)
    (h : Wa c ta ⟨sl, nn⟩ fun ds n => ds.all argOk = true ∧ ∃ x, ds.map arg = ar x ∧ pre x n ∧ ∀ d m, post x n d m → outD d = true ∧ Φ d m) : Wp c (tCallE S W ta) ⟨sl, nn⟩ Φ := ⟨fun σ A H o Q k => by
  refine h.run σ A H o _ fun vs H1 ds n p e1 g1 x => ?_
  have o1 := o.keep e1 g1
  obtain ⟨p1, z, p2, p3, p4⟩ := p
  refine hS _ _ _ _ ?_
  exact ⟨z, sp_run (K := K) (pre := fun ds n => ds = ar z ∧ pre z n) (post := fun _ n d m => post z n d m) hK o1.at_ x p1 ⟨p2, p3⟩ p4 fun v H2 d m q e2 g2 y => k v H2 d m q (e1.trans e2) g2 y⟩⟩
/-- .. it does -/
theorem wq_callM {ι : Type} {ar : ι → List D} {pre : ι → Nat → Prop} {post : ι → Nat → Addr → XFs → Nat → Prop} {S : Sp} {Φ : Addr → XFs → En → Prop} (hS : ∀ vs H Q E, SpR K ar pre post vs H Q E → S vs H Q E) (hK : K = c.K)
    (h : Wa c ta ⟨sl, nn⟩ fun ds n => ds.all argOk = true ∧ ∃ z, ds.map arg = ar z ∧ pre z n ∧ ∀ cl fs m, post z n cl fs m → Φ cl fs ⟨sl, m⟩) : Wq c (tCallE S W ta) ⟨sl, nn⟩ W Φ := ⟨fun σ A H o x Q => by
  refine h.run σ A H o _ fun vs H1 ds n p e1 g1 y => ?_
  have o1 := o.keep e1 g1
  obtain ⟨p1, z, p2, p3, p4⟩ := p
  subst hK
  refine hS _ _ _ _ ?_
  refine ⟨c.at_ A o1.at_.k, n, z, rfl, ⟨o1.at_.al, g1.kl⟩, by rw [← p2]; exact dxs_arg o1.at_ p1 y, p3, fun cls od H' cl fs m q ek g' xd => ?_⟩
  have ek' : Ek c H1 H' := ek
  have g2 : Good c m H' := ⟨fun b w => g'.al b (o1.at_.s b w), g'.kl⟩
  exact x σ A H' ⟨sl, m⟩ cls od cl fs (p4 cl fs m q) (Kp.ek (e1.trans ek')) (fun _ z => .inl z) (o1.keep ek' g2) xd⟩
end
end Wx

/-! ### part Vz27 -/
set_option Elab.async false
set_option linter.all false
set_option maxRecDepth 100000
set_option maxHeartbeats 1000000
set_option autoImplicit false
/-! The plain law of settling: the way of a cell into its ring; the tail and the period of an effect. -/
namespace Wx
open PySem L2
/-- path behind which d stands: how long, and the ring's length -/
def trF (t : Int) (l : List Src) : Nat → List Int → Int → Nat × Nat
  | 0, path, _ => (path.length, 1)
  | f + 1, path, d => if d ∈ path then (idxI path d, path.length - idxI path d) else match srcAt t l d with
    | .lit _ => (path.length + 1, 1)
    | .inp p => trF t l f (path ++ [d]) p
def tr (t : Int) (l : List Src) (d : Int) : Nat × Nat := trF t l 101 [] d
def stF (t : Int) (l : List Src) : Nat → Nat × Nat
  | 0 => (0, 1)
  | k + 1 => (max (stF t l k).1 (tr t l k).1, (stF t l k).2 / Nat.gcd (stF t l k).2 (tr t l k).2 * (tr t l k).2)
def stl (t : Int) (l : List Src) : Nat × Nat := stF t l t.toNat
/-- when a cell has the same source again -/
def Sm (t : Int) (l : List Src) (d : Int) (a r : Nat) : Prop := ∀ N M : Nat, N ≤ M → (pw t l N d = pw t l M d ↔ N = M ∨ (a ≤ N ∧ r ∣ M - N))
section
variable {t : Int} {l : List Src}
theorem nodup_inj {α : Type} {xs : List α} (h : xs.Nodup) {i j : Nat} {hi : i < xs.length} {hj : j < xs.length} (e : xs[i] = xs[j]) : i = j := by
  have w := List.pairwise_iff_getElem.mp h
  rcases Nat.lt_trichotomy i j with q | q | q
  · exact absurd e (w i j hi hj q)
  · exact q
  · exact absurd e.symm (w j i hj hi q)
theorem mod_dvd {x y r : Nat} (h : x ≤ y) : x % r = y % r ↔ r ∣ y - x := by
  constructor
  · intro e
    exact Nat.dvd_of_mod_eq_zero (Nat.sub_mod_eq_zero_of_mod_eq e.symm)
  · rintro ⟨q, hq⟩
    have : y = x + r * q := by omega
    rw [this, Nat.add_mul_mod_self_left]
theorem sm_ring {d0 d : Int} {path : List Int} (hn : path.Nodup) (hp : ∀ i (h : i < path.length), wk t l i d0 = some path[i]) (hd : wk t l path.length d0 = some d) (hm : d ∈ path) : Sm t l d0 (idxI path d) (path.length - idxI path d) ∧ idxI path d < path.length := by
  obtain ⟨a, ha, e1, hA⟩ : ∃ a, ∃ h : a < path.length, path[a] = d ∧ idxI path d = a := by
    obtain ⟨ha, e1, _⟩ := idxI_spec hm
    exact ⟨_, ha, e1, rfl⟩
  rw [hA]
  refine ⟨?_, ha⟩
  have wa : wk t l a d0 = some d := by rw [hp a ha, e1]
  have wr : wk t l (path.length - a) d = some d := by
    rw [← wk_add wa, show a + (path.length - a) = path.length by omega]
    exact hd
  generalize hr : path.length - a = r at wr
  have r0 : 0 < r := by omega
  have ix : ∀ N, ∃ h : (if N < a then N else a + (N - a) % r) < path.length, pw t l N d0 = .inp path[if N < a then N else a + (N - a) % r] := fun N => by
    by_cases c : N < a
    · rw [show (if N < a then N else a + (N - a) % r) = N from if_pos c]
      exact ⟨by omega, pw_wk (hp N (by omega))⟩
    · rw [show (if N < a then N else a + (N - a) % r) = a + (N - a) % r from if_neg c]
      have lt := Nat.mod_lt (N - a) r0
      have lt2 : a + (N - a) % r < path.length := by omega
      refine ⟨lt2, ?_⟩
      have := pw_wk (hp _ lt2)
      rw [pw_add wa] at this
      rw [← this, ← pw_ring wr, ← pw_add wa, show a + (N - a) = N by omega]
  intro N M h
  obtain ⟨h1, e2⟩ := ix N
  obtain ⟨h2, e3⟩ := ix M
  rw [e2, e3]
  have inj : (Src.inp path[if N < a then N else a + (N - a) % r] = Src.inp path[if M < a then M else a + (M - a) % r]) ↔ (if N < a then N else a + (N - a) % r) = (if M < a then M else a + (M - a) % r) := by
    constructor
    · intro e
      exact nodup_inj hn (Src.inp.inj e)
    · intro e
      congr 2
  rw [inj]
  by_cases c : N < a
  · rw [if_pos c]
    by_cases c2 : M < a
    · rw [if_pos c2]; omega
    · rw [if_neg c2]; omega
  · rw [if_neg c, if_neg (show ¬ M < a by omega)]
    have md := mod_dvd (x := N - a) (y := M - a) (r := r) (by omega)
    rw [show M - a - (N - a) = M - N by omega] at md
    constructor
    · intro e
      exact .inr ⟨by omega, md.mp (by omega)⟩
    · rintro (e | ⟨_, e⟩)
      · rw [e]
      · rw [md.mpr e]
theorem sm_lit {d0 d v : Int} {path : List Int} (hn : (path ++ [d]).Nodup) (hp : ∀ i (h : i < path.length), wk t l i d0 = some path[i]) (hd : wk t l path.length d0 = some d) (hv : srcAt t l d = .lit v) : Sm t l d0 (path.length + 1) 1 := by
  have near : ∀ N, N < path.length + 1 → ∃ h : N < (path ++ [d]).length, pw t l N d0 = .inp (path ++ [d])[N] := fun N h => by
    refine ⟨by simpa using h, ?_⟩
    by_cases c : N < path.length
    · rw [List.getElem_append_left c]
      exact pw_wk (hp N c)
    · have e : N = path.length := by omega
      subst e
      rw [List.getElem_append_right (Nat.le_refl _)]
      simpa using pw_wk hd
  have far : ∀ N, path.length + 1 ≤ N → pw t l N d0 = .lit v := fun N h => by
    have e : N = (path.length + 1) + (N - path.length - 1) := by omega
    rw [e]
    exact pw_stop (by rw [pw_add hd, pw_lit hv])
  intro N M h
  by_cases c : N < path.length + 1
  · obtain ⟨h1, e1⟩ := near N c
    by_cases c2 : M < path.length + 1
    · obtain ⟨h2, e2⟩ := near M c2
      rw [e1, e2]
      constructor
      · intro e
        exact .inl (nodup_inj hn (Src.inp.inj e))
      · rintro (e | ⟨e, _⟩)
        · congr 2
        · omega
    · rw [e1, far M (by omega)]
      constructor
      · intro e; cases e
      · rintro (e | ⟨e, _⟩) <;> omega
  · rw [far N (by omega), far M (by omega)]
    exact ⟨fun _ => .inr ⟨by omega, Nat.one_dvd _⟩, fun _ => rfl⟩
theorem trF_spec (o : okE t l) (hl : (l.length : Int) = t) {d0 : Int} : ∀ (f : Nat) (path : List Int) (d : Int), 101 ≤ f + path.length → path.Nodup → (∀ x ∈ path, 0 ≤ x ∧ x < t) → 0 ≤ d ∧ d < t → (∀ i (h : i < path.length), wk t l i d0 = some path[i]) → wk t l path.length d0 = some d →
    Sm t l d0 (trF t l f path d).1 (trF t l f path d).2 ∧ 1 ≤ (trF t l f path d).2 ∧ (trF t l f path d).2 ≤ 100 ∧ (trF t l f path d).1 ≤ 100
  | f, path, d, hf, hn, hx, hd, hp, hw => by
    have t1 := o.2.1
    have lp : path.length ≤ 100 := nodup_le (n := 100) hn fun x h => by have := hx x h; omega
    cases f with
    | zero => omega
    | succ f =>
      unfold trF
      by_cases c : d ∈ path
      · rw [if_pos c]
        obtain ⟨h1, h2⟩ := sm_ring hn hp hw c
        exact ⟨h1, by omega, by omega, by omega⟩
      · rw [if_neg c]
        have nd : (path ++ [d]).Nodup := by
          rw [List.nodup_append]
          refine ⟨hn, by simp, ?_⟩
          intro a ha b hb e
          rw [List.mem_singleton] at hb
          rw [e, hb] at ha
          exact c ha
        have lp2 : (path ++ [d]).length ≤ 100 := nodup_le (n := 100) nd fun x h => by
          rcases List.mem_append.mp h with h | h
          · have := hx x h; omega
          · rw [List.mem_singleton.mp h]; omega
        rw [List.length_append, List.length_singleton] at lp2
        cases z : srcAt t l d with
        | lit v => exact ⟨sm_lit nd hp hw z, Nat.le_refl _, by show (1 : Nat) ≤ 100; decide, lp2⟩
        | inp p =>
          have hs : 0 ≤ p ∧ p < t := by
            have hi : ((l.length : Int) - 1 - d).toNat < l.length := by omega
            have es : srcAt t l d = l[((l.length : Int) - 1 - d).toNat] := by
              unfold srcAt
              rw [if_pos (by omega), List.getElem?_eq_getElem hi, Option.getD_some]
            have := o.2.2.2 _ (List.getElem_mem hi)
            rw [← es, z] at this
            exact this
          refine trF_spec o hl f (path ++ [d]) p (by rw [List.length_append, List.length_singleton]; omega) nd (fun x h => ?_) hs (fun i h => ?_) ?_
          · rcases List.mem_append.mp h with h | h
            · exact hx x h
            · rw [List.mem_singleton.mp h]; exact hd
          · by_cases q : i < path.length
            · rw [List.getElem_append_left q]; exact hp i q
            · have e : i = path.length := by
                rw [List.length_append, List.length_singleton] at h
                omega
              subst e
              rw [List.getElem_append_right (Nat.le_refl _)]
              simpa using hw
          · rw [List.length_append, List.length_singleton]
            exact wk_next hw z
theorem tr_spec (o : okE t l) (hl : (l.length : Int) = t) {d : Int} (hd : 0 ≤ d ∧ d < t) : Sm t l d (tr t l d).1 (tr t l d).2 ∧ 1 ≤ (tr t l d).2 ∧ (tr t l d).2 ≤ 100 ∧ (tr t l d).1 ≤ 100 :=
  trF_spec o hl 101 [] d (Nat.le_refl _) List.nodup_nil (fun x h => nomatch h) hd (fun i h => by simp at h) rfl
theorem lcm_dvd {p r x : Nat} : p / Nat.gcd p r * r ∣ x ↔ p ∣ x ∧ r ∣ x := by
  have e : p / Nat.gcd p r * r = Nat.lcm p r := by
    unfold Nat.lcm
    rw [Nat.mul_comm, Nat.mul_comm p r, Nat.mul_div_assoc _ (Nat.gcd_dvd_left p r)]
  rw [e]
  exact ⟨fun h => ⟨Nat.dvd_trans (Nat.dvd_lcm_left p r) h, Nat.dvd_trans (Nat.dvd_lcm_right p r) h⟩, fun h => Nat.lcm_dvd h.1 h.2⟩
theorem stF_spec (o : okE t l) (hl : (l.length : Int) = t) : ∀ k : Nat, (k : Int) ≤ t → (stF t l k).1 ≤ 100 ∧ 1 ≤ (stF t l k).2 ∧ (stF t l k).2 ≤ 100 ^ k ∧ ∀ N M : Nat, N < M → ((∀ d : Int, 0 ≤ d → d < k → pw t l N d = pw t l M d) ↔ (stF t l k).1 ≤ N ∧ (stF t l k).2 ∣ M - N)
  | 0, _ => ⟨by show 0 ≤ 100; decide, Nat.le_refl _, Nat.le_refl _, fun N M _ => ⟨fun _ => ⟨Nat.zero_le _, Nat.one_dvd _⟩, fun _ d h1 h2 => by omega⟩⟩
  | k + 1, hk => by
    obtain ⟨h1, h2, h3, h4⟩ := stF_spec o hl k (by omega)
    obtain ⟨s1, s2, s3, s4⟩ := tr_spec o hl (d := (k : Int)) ⟨by omega, by omega⟩
    have g0 : 0 < Nat.gcd (stF t l k).2 (tr t l k).2 := Nat.gcd_pos_of_pos_left _ (by omega)
    have gd := Nat.gcd_dvd_left (stF t l k).2 (tr t l k).2
    refine ⟨Nat.max_le.mpr ⟨h1, s4⟩, ?_, ?_, fun N M h => ?_⟩
    · show 1 ≤ _ / _ * _
      exact Nat.mul_pos (Nat.div_pos (Nat.le_of_dvd (by omega) gd) g0) (by omega)
    · show _ / _ * _ ≤ _
      rw [Nat.pow_succ]
      exact Nat.mul_le_mul (Nat.le_trans (Nat.div_le_self _ _) h3) s3
    · show _ ↔ max _ _ ≤ N ∧ _ / _ * _ ∣ M - N
      rw [Nat.max_le, lcm_dvd]
      have z := s1 N M (by omega)
      have hh := h4 N M h
      constructor
      · intro q
        have a := hh.mp fun d d0 d1 => q d d0 (by omega)
        rcases z.mp (q k (by omega) (by omega)) with b | b
        · omega
        · exact ⟨⟨a.1, b.1⟩, a.2, b.2⟩
      · rintro ⟨⟨a1, b1⟩, a2, b2⟩ d d0 d1
        by_cases c : d < k
        · exact hh.mpr ⟨a1, a2⟩ d d0 c
        · have e : d = k := by omega
          rw [e]
          exact z.mpr (.inr ⟨b1, b2⟩)
end
end Wx

/-! ### part Km -/
set_option Elab.async false
set_option linter.all false
set_option maxRecDepth 100000
set_option maxHeartbeats 1000000
set_option autoImplicit false
namespace Wx
open PySem L2

theorem fmod_nat (x y : Nat) : (x : Int).fmod (y : Int) = ((x % y : Nat) : Int) := by rw [Int.ofNat_fmod]
/-- the source of a cell of a level effect -/
theorem src_lev {l : List Src} (ls : ∀ s ∈ l, okS (l.length : Int) s) {d : Int} (hd : 0 ≤ d ∧ d < l.length) : atI (pys l) ((l.length : Int) - 1 - d) = some (srcAt l.length l d).py ∧ okS (l.length : Int) (srcAt l.length l d) := by
  refine ⟨srcAt_py hd.1 hd.2, ?_⟩
  have hi : ((l.length : Int) - 1 - d).toNat < l.length := by omega
  have es : srcAt l.length l d = l[((l.length : Int) - 1 - d).toNat] := by
    unfold srcAt
    rw [if_pos (by omega), List.getElem?_eq_getElem hi, Option.getD_some]
  rw [es]
  exact ls _ (List.getElem_mem hi)
section
variable {P : Program} {w : World} {K : PySem.W.Frag} {mg : Str → Option Value} {base : Heap} {f C CT CB : Addr} {fd : FuncData}
abbrev sp_common_divisor (K : PySem.W.Frag) : Sp := SpX (ι := Nat × Nat) K (fun x => [.py (.int (x.1 : Int)), .py (.int (x.2 : Int))]) (fun _ _ => True) fun x n d m => d = .py (.int (Nat.gcd x.1 x.2 : Nat)) ∧ m = n
theorem ln_common_divisor (x : Nat × Nat) : [D.py (.int (x.1 : Int)), .py (.int (x.2 : Int))].length = 2 := rfl
theorem nm_common_divisor (x : Nat × Nat) : [D.py (.int (x.1 : Int)), .py (.int (x.2 : Int))].all D.nm = true := rfl
theorem sc_common_divisor : FnScope ["one", "other"] ["one", "other"] (defScope (top 80)) := ⟨rfl, rfl, rfl, by decide +kernel, rfl, by decide +kernel, by decide +kernel⟩
theorem ok_common_divisor (F : FnP K "common_divisor" "common_divisor" (top 80) f fd)  : FnOk P w K mg base CX0 1 f fd ["one", "other"] (sp_common_divisor K) := by
  refine F.ok sc_common_divisor (sx_len ln_common_divisor) (fun cdv A outer s H vs Q E hr h => ?_)
  have nd := sc_common_divisor.nd
  refine ⟨_, PSs.nox (pss_cons (ps_while PassesOwn.never (pt_cmpR op_gt (pv 1) (pe_int) (nomark _)) (pss_one (ps_par (i := 0) (j := 1) rfl nd rfl rfl (by decide) rfl rfl (pa_cons (pv 1) (pa_cons (pe_op op_modN (pv 0) (pv 1)) (pa_nil))) rfl)))
 (pss_one (ps_ret (pv 0)))), ?_⟩
  refine body_x nm_common_divisor ?_ vs H Q E h
  clear h hr
  intro c n x hK hp
  (subst hK)
  try clear F
  obtain ⟨a, b⟩ := x
  dsimp only
  refine ws_join (fun e1 => e1 = ⟨[.val (.py (.int (Nat.gcd a b : Nat))), .val (.py (.int 0))], n⟩) ?_ ?_
  · refine ws_while (fun m e1 => ∃ x y : Nat, Nat.gcd x y = Nat.gcd a b ∧ m = y ∧ e1 = ⟨[.val (.py (.int (x : Int))), .val (.py (.int (y : Int)))], n⟩) ⟨b, a, b, rfl, rfl, rfl⟩ ?_
    rintro m e1 ⟨x, y, hg, hm, rfl⟩
    walk_at "WK"
    refine ⟨fun c1 => ?_, fun c1 => ?_⟩
    · have c1' := of_decide_eq_true c1
      have hy : 0 < y := by omega
      walk_at "WK"
      rw [fmod_nat]
      exact ⟨x % y, by rw [hm]; exact Nat.mod_lt _ hy, y, x % y, by rw [← hg, Nat.gcd_comm, ← Nat.gcd_rec, Nat.gcd_comm], rfl, rfl⟩
    · have c1' := of_decide_eq_false c1
      have hy : y = 0 := by omega
      subst hy
      rw [Nat.gcd_zero_right] at hg
      rw [hg]
      rfl
  · rintro e1 rfl
    walk_at "WK"
    exact rfl
abbrev sp_tail_and_ring (K : PySem.W.Frag) : Sp := SpX (ι := List Src × Int) K (fun x => [.py (srcs x.1), .py (.int x.2)]) (fun x _ => okE x.1.length x.1 ∧ 0 ≤ x.2 ∧ x.2 < x.1.length) fun x n d m => d = .py (.tuple [.int ((tr x.1.length x.1 x.2).1 : Nat), .int ((tr x.1.length x.1 x.2).2 : Nat)]) ∧ m = n
theorem ln_tail_and_ring (x : List Src × Int) : [D.py (srcs x.1), .py (.int x.2)].length = 2 := rfl
theorem nm_tail_and_ring (x : List Src × Int) : [D.py (srcs x.1), .py (.int x.2)].all D.nm = true := rfl
theorem sc_tail_and_ring : FnScope ["left", "depth", "path", "source"] ["left", "depth"] (defScope (top 81)) := ⟨rfl, rfl, rfl, by decide +kernel, rfl, by decide +kernel, by decide +kernel⟩
theorem ok_tail_and_ring (F : FnP K "tail_and_ring" "tail_and_ring" (top 81) f fd) (g_len : mg "len" = none) : FnOk P w K mg base CX0 1 f fd ["left", "depth"] (sp_tail_and_ring K) := by
  refine F.ok sc_tail_and_ring (sx_len ln_tail_and_ring) (fun cdv A outer s H vs Q E hr h => ?_)
  have nd := sc_tail_and_ring.nd
  refine ⟨_, PSs.nox (pss_cons (ps_setO (i := 2) nd rfl (Or.inl rfl) (pe_lst (pa_nil)))
 (pss_cons (ps_while PassesOwn.never (pt_cmpR (niK (K := K) rfl (room65 hr)) (pv 1) (pv 2) (by rfl)) (pss_cons (ps_expr (pe_bm PySem.F.plainAttrs_list PySem.F.slot_list_append PySem.F.type_list_append mt_append (pv 2) (pa_cons (pv 1) (pa_nil))))
 (pss_cons (ps_set (i := 3) nd rfl (Or.inl rfl) (pe_ix (ixK (K := K) rfl) (pv 0) (pe_op op_sub (pe_op op_sub (pe_callB (lenK (K := K) rfl) rfl g_len PySem.boot_len (pa_cons (pv 0) (pa_nil))) (pe_int)) (pv 1)) (fun _ _ => rfl)))
 (pss_cons (ps_if (pt_cmpR (eqK (K := K) rfl (room64 hr)) (pe_ix (ixK (K := K) rfl) (pv 3) (pe_int) (fun _ _ => rfl)) (pe_str) (nomark _)) (pss_one (ps_ret (pe_tup (pa_cons (pe_callB (lenK (K := K) rfl) rfl g_len PySem.boot_len (pa_cons (pv 2) (pa_nil))) (pa_cons (pe_int) (pa_nil)))))) (pss_nil))
 (pss_one (ps_set (i := 1) nd rfl (Or.inl rfl) (pe_ix (ixK (K := K) rfl) (pv 3) (pe_int) (fun _ _ => rfl))))))))
 (pss_one (ps_ret (pe_tup (pa_cons (pe_bm PySem.F.plainAttrs_list PySem.F.slot_list_index PySem.F.type_list_index mt_index (pv 2) (pa_cons (pv 1) (pa_nil))) (pa_cons (pe_op op_sub (pe_callB (lenK (K := K) rfl) rfl g_len PySem.boot_len (pa_cons (pv 2) (pa_nil))) (pe_bm PySem.F.plainAttrs_list PySem.F.slot_list_index PySem.F.type_list_index mt_index (pv 2) (pa_cons (pv 1) (pa_nil)))) (pa_nil)))))))), ?_⟩
  refine body_x nm_tail_and_ring ?_ vs H Q E h
  clear h hr
  intro c n x hK hp
  (subst hK)
  try clear g_len F
  obtain ⟨l, d0⟩ := x
  dsimp only
  obtain ⟨⟨t0, t1, l1, ls⟩, hd0, hd1⟩ : okE l.length l ∧ 0 ≤ d0 ∧ d0 < l.length := hp
  walk_at "WJ"
  refine ws_seq ?_
  walk_at "WJ"
  refine ws_join (fun e1 => ∃ (path : List Int) (d : Int) (s3 : Slo), d ∈ path ∧ path.length ≤ 100 ∧ tr l.length l d0 = (idxI path d, path.length - idxI path d) ∧ e1 = ⟨[.val (.py (srcs l)), .val (.py (.int d)), .own (.lst (nums path)), s3], n⟩) ?_ ?_
  · refine ws_while (fun m e1 => ∃ (path : List Int) (d : Int) (s3 : Slo), m = 101 - path.length ∧ path.Nodup ∧ (∀ x ∈ path, 0 ≤ x ∧ x < (l.length : Int)) ∧ 0 ≤ d ∧ d < (l.length : Int) ∧ trF l.length l (101 - path.length) path d = tr l.length l d0 ∧ e1 = ⟨[.val (.py (srcs l)), .val (.py (.int d)), .own (.lst (nums path)), s3], n⟩) ⟨101, [], d0, _, rfl, List.nodup_nil, (fun x h => nomatch h), hd0, hd1, rfl, rfl⟩ ?_
    rintro m e1 ⟨path, d, s3, rfl, hn, hx, h0, h1, ht, rfl⟩
    have hlen : path.length ≤ 100 := nodup_le (n := 100) hn fun x hx' => by
      have := hx x hx'
      omega
    walk_at "WK"
    refine ⟨shp_numsL _, ?_⟩
    rw [mem_nums]
    obtain ⟨f', hf⟩ : ∃ f', 101 - path.length = f' + 1 := ⟨100 - path.length, by omega⟩
    rw [hf] at ht
    unfold trF at ht
    refine ⟨fun c1 => ?_, fun c1 => ?_⟩
    · have c1' : d ∉ path := by simpa using c1
      rw [if_neg c1'] at ht
      obtain ⟨hat, hok⟩ := src_lev ls ⟨h0, h1⟩
      walk_at "WK"
      refine ⟨_, rfl, Nat.lt_of_le_of_lt (show (nums path).length ≤ 1000 by rw [nums_len]; omega) (by decide), ?_⟩
      walk_at "WK"
      rw [pys_len]
      refine ⟨_, hat, ?_⟩
      have hn' : (path ++ [d]).Nodup := List.nodup_append.mpr ⟨hn, by simp, fun a ha b hb => by
        have : b = d := by simpa using hb
        rw [this]
        exact fun e => c1' (by rw [← e]; exact ha)⟩
      have hx' : ∀ x ∈ path ++ [d], 0 ≤ x ∧ x < (l.length : Int) := fun x hx2 => by
        rcases List.mem_append.mp hx2 with h | h
        · exact hx x h
        · rw [List.mem_singleton.mp h]; exact ⟨h0, h1⟩
      cases z : srcAt l.length l d with
      | lit v =>
        rw [z] at ht
        rw [show (Src.lit v).py = .tuple [.str "lit", .int v] from rfl]
        walk_at "WK"
        refine ⟨_, rfl, ?_⟩
        walk_at "WK"
        refine ⟨fun _ => ?_, fun z => (nomatch z)⟩
        walk_at "WK"
        rw [← ht]
        refine ⟨?_, rfl⟩
        rw [List.length_append, nums_len]
        rfl
      | inp p =>
        rw [z] at ht hok
        have hok' : 0 ≤ p ∧ p < (l.length : Int) := hok
        rw [show (Src.inp p).py = .tuple [.str "in", .int p] from rfl]
        walk_at "WK"
        refine ⟨_, rfl, ?_⟩
        walk_at "WK"
        refine ⟨fun z => (nomatch z), fun _ => ?_⟩
        walk_at "WK"
        refine ⟨_, rfl, ?_⟩
        walk_at "WK"
        refine ⟨101 - (path ++ [d]).length, by rw [List.length_append, List.length_singleton]; omega, path ++ [d], p, .val (.py (.tuple [.str "in", .int p])), rfl, hn', hx', hok'.1, hok'.2, ?_, ?_⟩
        · rw [← ht]
          congr 1
          rw [List.length_append, List.length_singleton]
          omega
        · rw [← nums_app]
          rfl
    · have c1' : d ∈ path := by simpa using c1
      rw [if_pos c1'] at ht
      exact ⟨path, d, s3, c1', hlen, ht.symm, rfl⟩
  · rintro e1 ⟨path, d, s3, hm, hlen, ht, rfl⟩
    obtain ⟨ha, _, _⟩ := idxI_spec hm
    walk_at "WK"
    refine ⟨d, rfl, hm, ?_⟩
    walk_at "WK"
    refine ⟨d, rfl, hm, ?_⟩
    walk_at "WK"
    rw [ht, nums_len]
    dsimp only
    rw [show ((path.length - idxI path d : Nat) : Int) = (path.length : Int) - (idxI path d : Nat) by omega]
    exact ⟨rfl, rfl⟩
abbrev sp_settles (K : PySem.W.Frag) (C : Addr) : Sp := SpX (ι := Int × List Src) K (fun x => [effD C x.1 x.2]) (fun x _ => okE x.1 x.2 ∧ (x.2.length : Int) = x.1) fun x n d m => d = .py (.tuple [.int ((stl x.1 x.2).1 : Nat), .int ((stl x.1 x.2).2 : Nat)]) ∧ m = n
theorem ln_settles (x : Int × List Src) : [effD C x.1 x.2].length = 1 := rfl
theorem nm_settles (x : Int × List Src) : [effD C x.1 x.2].all D.nm = true := rfl
theorem sc_settles : FnScope ["effect", "depth", "tail", "period", "length", "ring"] ["effect"] (defScope (top 82)) := ⟨rfl, rfl, rfl, by decide +kernel, rfl, by decide +kernel, by decide +kernel⟩
theorem ok_settles (F : FnP K "settles" "settles" (top 82) f fd) (S_require_effect : Std P w K mg base 1 "require_effect" ["value"] (sp_require_effect K C)) (g_range : mg "range" = none) (S_tail_and_ring : Std P w K mg base 1 "tail_and_ring" ["left", "depth"] (sp_tail_and_ring K)) (g_max : mg "max" = none) (S_common_divisor : Std P w K mg base 1 "common_divisor" ["one", "other"] (sp_common_divisor K)) (kc : KitC K C) (a1 : NoAttr K C "kept_taken") (a2 : NoAttr K C "kept_left") (gE : mg "Effect" = some (.ref C)) (P_taken : StdP P w K mg base 1 C "taken" (sp_Effect_taken K C)) (P_left : StdP P w K mg base 1 C "left" (sp_Effect_left K C)) (P_growth : StdP P w K mg base 1 C "growth" (sp_Effect_growth K C)) : FnOk P w K mg base CX0 3 f fd ["effect"] (sp_settles K C) := by
  refine F.ok sc_settles (sx_len ln_settles) (fun cdv A outer s H vs Q E hr h => ?_)
  have nd := sc_settles.nd
  refine ⟨_, PSs.nox (pss_cons (ps_expr (pe_std S_require_effect (hr.mono (by decide)) rfl (pa_cons (pv 0) (pa_nil))))
 (pss_cons (ps_if (pt_cmpR (neK (K := K) rfl (room64 hr)) (pe_propS P_growth kc.cl hr (pv 0) rfl) (pe_int) (nomark _)) (pss_one (ps_never)) (pss_nil))
 (pss_cons (ps_asg (pe_tup (pa_cons (pe_int) (pa_cons (pe_int) (pa_nil)))) (gtupK (K := K) (n := 2) rfl rfl (pgs_cons (pg_name (i := 2) nd rfl (Or.inl rfl)) (pgs_cons (pg_name (i := 3) nd rfl (Or.inl rfl)) (pgs_nil)))))
 (pss_cons (ps_for PassesOwn.never rfl (pi_range1 rfl g_range (pa_cons (pe_propS P_taken kc.cl hr (pv 0) rfl) (pa_nil))) (pg_name (i := 1) nd rfl (Or.inl rfl)) (pss_cons (ps_asg (pe_std S_tail_and_ring (hr.mono (by decide)) rfl (pa_cons (pe_propS P_left kc.cl hr (pv 0) rfl) (pa_cons (pv 1) (pa_nil)))) (gtupK (K := K) (n := 2) rfl rfl (pgs_cons (pg_name (i := 4) nd rfl (Or.inl rfl)) (pgs_cons (pg_name (i := 5) nd rfl (Or.inl rfl)) (pgs_nil)))))
 (pss_cons (ps_set (i := 2) nd rfl (Or.inl rfl) (pe_callB (callMAX2 rfl) rfl g_max bt_max (pa_cons (pv 2) (pa_cons (pv 4) (pa_nil)))))
 (pss_one (ps_set (i := 3) nd rfl (Or.inl rfl) (pe_op opMUL (pe_op op_fdivW (pv 3) (pe_std S_common_divisor (hr.mono (by decide)) rfl (pa_cons (pv 3) (pa_cons (pv 5) (pa_nil))))) (pv 5)))))))
 (pss_one (ps_ret (pe_tup (pa_cons (pv 2) (pa_cons (pv 3) (pa_nil)))))))))), ?_⟩
  refine body_x nm_settles ?_ vs H Q E h
  clear h hr
  intro c n x hK hp
  (subst hK)
  try clear S_require_effect g_range S_tail_and_ring g_max S_common_divisor gE P_taken P_left P_growth F
  obtain ⟨t, l⟩ := x
  dsimp only
  obtain ⟨hE, hl⟩ : okE t l ∧ (l.length : Int) = t := hp
  walk_at "WK"
  refine ⟨(t, l), rfl, trivial, ?_⟩
  rintro d m ⟨rfl, rfl⟩
  refine ⟨rfl, ?_⟩
  walk_at "WJ"
  refine ws_seq ?_
  walk_at "WK"
  refine ⟨_, rfl, (t, l), rfl, trivial, ?_⟩
  rintro d m ⟨rfl, rfl⟩
  refine ⟨rfl, ?_⟩
  dsimp only
  walk_at "WK"
  rw [decide_eq_true (show (l.length : Int) - t = 0 by omega)]
  refine ⟨fun z => (nomatch z), fun _ => ?_⟩
  walk_at "WJ"
  refine ws_seq ?_
  walk_at "WJ"
  refine ws_join (fun e1 => ∃ (s1 s4 s5 : Slo), e1 = ⟨[.val (effD C t l), s1, .val (.py (.int ((stl t l).1 : Nat))), .val (.py (.int ((stl t l).2 : Nat))), s4, s5], m⟩) ?_ ?_
  · refine ws_for [1] (wi_rng1 ?_)
    walk_at "WK"
    refine ⟨_, rfl, (t, l), rfl, trivial, ?_⟩
    rintro d m' ⟨rfl, rfl⟩
    refine ⟨rfl, ?_⟩
    dsimp only
    walk_at "WK"
    obtain ⟨t0, t1, l1, ls⟩ := hE
    refine ⟨by omega, by omega, fun i e1 => ∃ (s1 s4 s5 : Slo), e1 = ⟨[.val (effD C t l), s1, .val (.py (.int ((stF t l i).1 : Nat))), .val (.py (.int ((stF t l i).2 : Nat))), s4, s5], m'⟩, ⟨_, _, _, rfl⟩, ?_, ?_⟩
    · rintro i d1 e1 hd ⟨s1, s4, s5, rfl⟩
      obtain ⟨hi, rfl⟩ := seqI_of hd
      refine wg_name ⟨rfl, ?_⟩ (Nat.le_of_ble_eq_true rfl) (by decide)
      walk_at "WK"
      refine ⟨_, rfl, (t, l), rfl, trivial, ?_⟩
      rintro d m2 ⟨rfl, rfl⟩
      refine ⟨rfl, ?_⟩
      dsimp only
      walk_at "WK"
      refine ⟨(l, 0 + (i : Int) * 1), rfl, ⟨⟨by omega, by omega, l1, by rw [hl]; exact ls⟩, by dsimp only; omega, by dsimp only; omega⟩, ?_⟩
      rintro d m2 ⟨rfl, rfl⟩
      refine ⟨rfl, ?_⟩
      dsimp only
      rw [show 0 + (i : Int) * 1 = i by omega, hl]
      obtain ⟨q1, q2, q3, q4⟩ := stF_spec ⟨t0, t1, l1, ls⟩ hl i (by omega)
      obtain ⟨r1, r2, r3, r4⟩ := tr_spec ⟨t0, t1, l1, ls⟩ hl (d := (i : Int)) ⟨by omega, by omega⟩
      have q5 : (stF t l i).2 < 2 ^ 700 := Nat.lt_of_le_of_lt (Nat.le_trans q3 (Nat.pow_le_pow_right (n := 100) (by decide) (show i ≤ 100 by omega))) (by decide +kernel)
      have e1 : stF t l (i + 1) = (max (stF t l i).1 (tr t l i).1, (stF t l i).2 / Nat.gcd (stF t l i).2 (tr t l i).2 * (tr t l i).2) := rfl
      rw [e1]
      generalize (stF t l i).1 = A1 at *
      generalize (stF t l i).2 = P1 at *
      generalize (tr t l i).1 = A2 at *
      generalize (tr t l i).2 = R2 at *
      have g1 : 0 < Nat.gcd P1 R2 := Nat.gcd_pos_of_pos_left _ (by omega)
      have g2 : Nat.gcd P1 R2 ≤ R2 := Nat.le_of_dvd (by omega) (Nat.gcd_dvd_right P1 R2)
      have g3 : P1 / Nat.gcd P1 R2 ≤ P1 := Nat.div_le_self _ _
      walk_at "WK"
      refine ⟨(P1, R2), rfl, trivial, ?_⟩
      rintro d m3 ⟨rfl, rfl⟩
      refine ⟨rfl, ?_⟩
      dsimp only
      refine rw_fdI (wide_div (b := 10) (by omega) (by omega) (by decide) (by decide)) ?_
      rw [show (P1 : Int) / ((Nat.gcd P1 R2 : Nat) : Int) = ((P1 / Nat.gcd P1 R2 : Nat) : Int) by norm_cast]
      generalize P1 / Nat.gcd P1 R2 = X1 at *
      walk_at "WK"
      refine rw_mI (wide_mul (a := 700) (b := 10) (Nat.lt_of_le_of_lt (show _ ≤ P1 by omega) q5) (by omega) (by decide) (by decide) (by decide)) ?_
      rw [show (if (A2 : Int) > A1 then (A2 : Int) else A1) = ((max A1 A2 : Nat) : Int) by split <;> omega]
      walk_at "WK"
      exact ⟨_, _, _, rfl⟩
    · rintro e1 ⟨s1, s4, s5, rfl⟩
      rw [seqI_len]
      exact ⟨s1, s4, s5, rfl⟩
  · rintro e1 ⟨s1, s4, s5, rfl⟩
    walk_at "WK"
    exact rfl

/-! ## settles at what is no effect, and at a growth -/
abbrev spr_settlesE (K : PySem.W.Frag) (C CT : Addr) : Sp := SpR (ι := Dn) K (fun x => [x.1]) (fun x _ => NotEff K C x.1) fun _ n cl fs m => cl = CT ∧ fs = none ∧ m = n
theorem lnr_settlesE (x : Dn) : [x.1].length = 1 := rfl
theorem nmr_settlesE (x : Dn) : [x.1].all D.nm = true := by rw [List.all_cons, x.2]; rfl
theorem okr_settlesE (F : FnP K "settles" "settles" (top 82) f fd) (R_require_effect : StdE P w K mg base 1 "require_effect" ["value"] (spr_require_effect K C CT)) (g_range : mg "range" = none) (S_tail_and_ring : Std P w K mg base 1 "tail_and_ring" ["left", "depth"] (sp_tail_and_ring K)) (g_max : mg "max" = none) (S_common_divisor : Std P w K mg base 1 "common_divisor" ["one", "other"] (sp_common_divisor K)) (kc : KitC K C) (a1 : NoAttr K C "kept_taken") (a2 : NoAttr K C "kept_left") (gE : mg "Effect" = some (.ref C)) (P_taken : StdP P w K mg base 1 C "taken" (sp_Effect_taken K C)) (P_left : StdP P w K mg base 1 C "left" (sp_Effect_left K C)) (P_growth : StdP P w K mg base 1 C "growth" (sp_Effect_growth K C)) (X_bal : Ex0 K mg "NotBalanced" CB) : FnOk P w K mg base (L2.CX P w) 3 f fd ["effect"] (spr_settlesE K C CT) := by
  refine F.ok sc_settles (sr_len lnr_settlesE) (fun cdv A outer s H vs Q E hr h => ?_)
  have nd := sc_settles.nd
  have tk : Takes (cxOf (L2.CX P w) P w K mg base ["effect", "depth", "tail", "period", "length", "ring"] "settles" (defScope (top 82)) f cdv A outer s H E) (fun cls d _ H => E cls d H) := takes_of rfl rfl rfl rfl
  refine ⟨_, (pss_cons (ps_expr (pe_stdE R_require_effect (hr.mono (by decide)) tk rfl (pa_cons (pv 0) (pa_nil))))
 (pss_cons (ps_if (pt_cmpR (neK (K := K) rfl (room64 hr)) (pe_propS P_growth kc.cl hr (pv 0) rfl) (pe_int) (nomark _)) (pss_one (ps_raise0 rfl X_bal tk)) (pss_nil))
 (pss_cons (ps_asg (pe_tup (pa_cons (pe_int) (pa_cons (pe_int) (pa_nil)))) (gtupK (K := K) (n := 2) rfl rfl (pgs_cons (pg_name (i := 2) nd rfl (Or.inl rfl)) (pgs_cons (pg_name (i := 3) nd rfl (Or.inl rfl)) (pgs_nil)))))
 (pss_cons (ps_for (passes_of rfl) rfl (pi_range1 rfl g_range (pa_cons (pe_propS P_taken kc.cl hr (pv 0) rfl) (pa_nil))) (pg_name (i := 1) nd rfl (Or.inl rfl)) (pss_cons (ps_asg (pe_std S_tail_and_ring (hr.mono (by decide)) rfl (pa_cons (pe_propS P_left kc.cl hr (pv 0) rfl) (pa_cons (pv 1) (pa_nil)))) (gtupK (K := K) (n := 2) rfl rfl (pgs_cons (pg_name (i := 4) nd rfl (Or.inl rfl)) (pgs_cons (pg_name (i := 5) nd rfl (Or.inl rfl)) (pgs_nil)))))
 (pss_cons (ps_set (i := 2) nd rfl (Or.inl rfl) (pe_callB (callMAX2 rfl) rfl g_max bt_max (pa_cons (pv 2) (pa_cons (pv 4) (pa_nil)))))
 (pss_one (ps_set (i := 3) nd rfl (Or.inl rfl) (pe_op opMUL (pe_op op_fdivW (pv 3) (pe_std S_common_divisor (hr.mono (by decide)) rfl (pa_cons (pv 3) (pa_cons (pv 5) (pa_nil))))) (pv 5)))))))
 (pss_one (ps_ret (pe_tup (pa_cons (pv 2) (pa_cons (pv 3) (pa_nil)))))))))), ?_⟩
  refine body_r nmr_settlesE ?_ vs H Q h
  clear h hr tk
  intro c n x hK hp
  (subst hK)
  try clear R_require_effect g_range S_tail_and_ring g_max S_common_divisor gE P_taken P_left P_growth F
  obtain ⟨d, hd⟩ := x
  have ne : NotEff c.K C d := hp
  refine wr_seq1 (wr_drop (wq_callE rfl ?_))
  walk_at "WK"
  refine ⟨by rw [List.all_cons, ne.ok]; rfl, ⟨d, hd⟩, by rw [List.map_cons, ne.ar]; rfl, ne, ?_⟩
  rintro cl fs m ⟨rfl, rfl, rfl⟩
  exact ⟨rfl, rfl, rfl⟩
abbrev spr_settlesB (K : PySem.W.Frag) (C CT : Addr) : Sp := SpR (ι := Int × List Src) K (fun x => [effD C x.1 x.2]) (fun x _ => okE x.1 x.2 ∧ (x.2.length : Int) ≠ x.1) fun _ n cl fs m => cl = CT ∧ fs = none ∧ m = n
theorem lnr_settlesB (x : Int × List Src) : [effD C x.1 x.2].length = 1 := rfl
theorem nmr_settlesB (x : Int × List Src) : [effD C x.1 x.2].all D.nm = true := rfl
theorem okr_settlesB (F : FnP K "settles" "settles" (top 82) f fd) (S_require_effect : Std P w K mg base 1 "require_effect" ["value"] (sp_require_effect K C)) (g_range : mg "range" = none) (S_tail_and_ring : Std P w K mg base 1 "tail_and_ring" ["left", "depth"] (sp_tail_and_ring K)) (g_max : mg "max" = none) (S_common_divisor : Std P w K mg base 1 "common_divisor" ["one", "other"] (sp_common_divisor K)) (kc : KitC K C) (a1 : NoAttr K C "kept_taken") (a2 : NoAttr K C "kept_left") (gE : mg "Effect" = some (.ref C)) (P_taken : StdP P w K mg base 1 C "taken" (sp_Effect_taken K C)) (P_left : StdP P w K mg base 1 C "left" (sp_Effect_left K C)) (P_growth : StdP P w K mg base 1 C "growth" (sp_Effect_growth K C)) (X_bal : Ex0 K mg "NotBalanced" CT) : FnOk P w K mg base (L2.CX P w) 3 f fd ["effect"] (spr_settlesB K C CT) := by
  refine F.ok sc_settles (sr_len lnr_settlesB) (fun cdv A outer s H vs Q E hr h => ?_)
  have nd := sc_settles.nd
  have tk : Takes (cxOf (L2.CX P w) P w K mg base ["effect", "depth", "tail", "period", "length", "ring"] "settles" (defScope (top 82)) f cdv A outer s H E) (fun cls d _ H => E cls d H) := takes_of rfl rfl rfl rfl
  refine ⟨_, (pss_cons (ps_expr (pe_std S_require_effect (hr.mono (by decide)) rfl (pa_cons (pv 0) (pa_nil))))
 (pss_cons (ps_if (pt_cmpR (neK (K := K) rfl (room64 hr)) (pe_propS P_growth kc.cl hr (pv 0) rfl) (pe_int) (nomark _)) (pss_one (ps_raise0 rfl X_bal tk)) (pss_nil))
 (pss_cons (ps_asg (pe_tup (pa_cons (pe_int) (pa_cons (pe_int) (pa_nil)))) (gtupK (K := K) (n := 2) rfl rfl (pgs_cons (pg_name (i := 2) nd rfl (Or.inl rfl)) (pgs_cons (pg_name (i := 3) nd rfl (Or.inl rfl)) (pgs_nil)))))
 (pss_cons (ps_for (passes_of rfl) rfl (pi_range1 rfl g_range (pa_cons (pe_propS P_taken kc.cl hr (pv 0) rfl) (pa_nil))) (pg_name (i := 1) nd rfl (Or.inl rfl)) (pss_cons (ps_asg (pe_std S_tail_and_ring (hr.mono (by decide)) rfl (pa_cons (pe_propS P_left kc.cl hr (pv 0) rfl) (pa_cons (pv 1) (pa_nil)))) (gtupK (K := K) (n := 2) rfl rfl (pgs_cons (pg_name (i := 4) nd rfl (Or.inl rfl)) (pgs_cons (pg_name (i := 5) nd rfl (Or.inl rfl)) (pgs_nil)))))
 (pss_cons (ps_set (i := 2) nd rfl (Or.inl rfl) (pe_callB (callMAX2 rfl) rfl g_max bt_max (pa_cons (pv 2) (pa_cons (pv 4) (pa_nil)))))
 (pss_one (ps_set (i := 3) nd rfl (Or.inl rfl) (pe_op opMUL (pe_op op_fdivW (pv 3) (pe_std S_common_divisor (hr.mono (by decide)) rfl (pa_cons (pv 3) (pa_cons (pv 5) (pa_nil))))) (pv 5)))))))
 (pss_one (ps_ret (pe_tup (pa_cons (pv 2) (pa_cons (pv 3) (pa_nil)))))))))), ?_⟩
  refine body_r nmr_settlesB ?_ vs H Q h
  clear h hr tk
  intro c n x hK hp
  (subst hK)
  try clear S_require_effect g_range S_tail_and_ring g_max S_common_divisor gE P_taken P_left P_growth F
  obtain ⟨t, l⟩ := x
  obtain ⟨hE, hl⟩ : okE t l ∧ (l.length : Int) ≠ t := hp
  refine wr_seq2 ?_
  walk_at "WK"
  refine ⟨(t, l), rfl, trivial, ?_⟩
  rintro d m ⟨rfl, rfl⟩
  refine ⟨rfl, ?_⟩
  refine wr_seq1 (wr_if ?_)
  walk_at "WK"
  refine ⟨_, rfl, (t, l), rfl, trivial, ?_⟩
  rintro d m ⟨rfl, rfl⟩
  refine ⟨rfl, ?_⟩
  dsimp only
  walk_at "WK"
  rw [decide_eq_false (show ¬ (l.length : Int) - t = 0 by omega)]
  refine ⟨fun _ => ?_, fun z => (nomatch z)⟩
  exact wr_raise0 ⟨rfl, rfl, rfl⟩
end
end Wx

/-! ### part Ko -/
set_option Elab.async false
set_option linter.all false
set_option maxRecDepth 100000
set_option maxHeartbeats 1000000
set_option autoImplicit false
/-! _law_told. -/
namespace Wx
open PySem L2

/-- what a call tells -/
inductive TC (K : PySem.W.Frag) (C : Addr) : Int → D → PyData → PyData → Str → Prop
  | e0 {d : D} {p q : PyData} : NotEff K C d → TC K C 0 d p q "effect"
  | t0 {t : Int} {l : List Src} {p q : PyData} : kn p → inRP p 0 (10 ^ 30) = false → TC K C 0 (effD C t l) p q "times"
  | d0 {t : Int} {l : List Src} {N : Nat} {q : PyData} : N ≤ 10 ^ 30 → kn q → badDp q = true → TC K C 0 (effD C t l) (.int (N : Int)) q "depth"
  | f0 {t : Int} {l : List Src} {N : Nat} {i : Int} : okE t l → 0 ≤ i → i < 2 ^ 300 → N ≤ 10 ^ 30 → TC K C 0 (effD C t l) (.int (N : Int)) (.int i) "fine"
  | e1 {d : D} {p q : PyData} : NotEff K C d → TC K C 1 d p q "effect"
  | d1 {t : Int} {l : List Src} {p q : PyData} : kn p → badDp p = true → TC K C 1 (effD C t l) p q "depth"
  | s1 {t : Int} {l : List Src} {i : Int} {q : PyData} : 0 ≤ i → knS q → isSrcP q = false → TC K C 1 (effD C t l) (.int i) q "source"
  | f1 {t : Int} {l : List Src} {i : Int} {s : Src} : okE t l → 0 ≤ i → i < 2 ^ 300 → isS s → TC K C 1 (effD C t l) (.int i) s.py "fine"
  | e2 {d : D} {p q : PyData} : NotEff K C d → TC K C 2 d p q "effect"
  | b2 {t : Int} {l : List Src} {p q : PyData} : okE t l → (l.length : Int) ≠ t → TC K C 2 (effD C t l) p q "balanced"
  | f2 {t : Int} {l : List Src} {p q : PyData} : okE t l → (l.length : Int) = t → TC K C 2 (effD C t l) p q "fine"
theorem rw_isNO {c : Cy} {Φ : D → Nat → Prop} {n : Nat} {φ : Addr → HO → Prop} (h : Φ (.py (.bool false)) n) : Rw c rISN (.obj φ) (.py .none) n Φ := ⟨fun A H v1 v2 a x1 x2 Q k => by
  obtain ⟨b, o, rfl, _⟩ := x1
  cases (show Da c.K A H v2 .none from x2)
  exact ⟨rfl, k _ H _ n h Ek.refl a.good (.bl _)⟩⟩
abbrev e0T (door : Int) (one : D) (two three : PyData) (kk : Str) (n : Nat) : En := ⟨[.val (.py (.int door)), .val one, .val (.py two), .val (.py three), .emp, .val (.py (.str kk)), .val (.py .none)], n⟩
abbrev tbTold (K : PySem.W.Frag) (C : Addr) (W : WX) : TS := tIfS (tTest (tOp (rEqD K) (tVar 0) (tC (V.int 0))))
        (tDrop (tCallE (SpO (sp_cell_after K C) (SpO (spr_cell_afterE K C (He.ga K "InvalidEffect")) (SpO (spr_cell_afterT K C (He.ga K "InvalidTimes")) (spr_cell_afterD K C (He.ga K "InvalidDepth"))))) W (tCons (tVar 1) (tCons (tVar 2) (tCons (tVar 3) tNil)))))
        (tIfS (tTest (tOp (rEqD K) (tVar 0) (tC (V.int 1))))
          (tDrop (tCallE (SpO (sp_first_time K C) (SpO (spr_first_timeE K C (He.ga K "InvalidEffect")) (SpO (spr_first_timeD K C (He.ga K "InvalidDepth")) (spr_first_timeS K C (He.ga K "InvalidSource"))))) W (tCons (tVar 1) (tCons (tVar 2) (tCons (tVar 3) tNil)))))
          (tDrop (tCallE (SpO (sp_settles K C) (SpO (spr_settlesE K C (He.ga K "InvalidEffect")) (spr_settlesB K C (He.ga K "NotBalanced")))) W (tCons (tVar 1) tNil))))
theorem told_body {c : Cy} {C : Addr} {door : Int} {one : D} {two three : PyData} {u kk : Str} {n : Nat} (h : TC c.K C door one two three u) (hone : one.nm = true) :
    (∃ j, j < 5 ∧ u = (rn j).2 ∧ ∀ W, Wr c (tbTold c.K C W) (e0T door one two three kk n) W fun cl fs e' => cl = He.ga c.K (rn j).1 ∧ fs = none ∧ e' = e0T door one two three kk n) ∨
    (u = "fine" ∧ ∀ W (P : Po), P.nx (e0T door one two three kk n) → Ws c (tbTold c.K C W) (e0T door one two three kk n) P) := by
  cases h with
  | e0 ne =>
    refine .inl ⟨0, by decide, rfl, fun W => wr_if ?_⟩
    walk_at "WK"
    refine ⟨fun _ => ?_, (fun z => nomatch z)⟩
    refine wr_drop (wq_callM (fun _ _ _ _ z => .inr (.inl z)) rfl ?_)
    walk_at "WK"
    refine ⟨by rw [List.all_cons, ne.ok]; rfl, (⟨one, hone⟩, two, three), by rw [List.map_cons, ne.ar]; rfl, ne, ?_⟩
    rintro cl fs m ⟨rfl, rfl, rfl⟩
    exact ⟨rfl, rfl, rfl⟩
  | @t0 t l _ _ k1 k2 =>
    refine .inl ⟨1, by decide, rfl, fun W => wr_if ?_⟩
    walk_at "WK"
    refine ⟨fun _ => ?_, (fun z => nomatch z)⟩
    refine wr_drop (wq_callM (fun _ _ _ _ z => .inr (.inr (.inl z))) rfl ?_)
    walk_at "WK"
    refine ⟨(t, l, two, three), rfl, ⟨k1, k2⟩, ?_⟩
    rintro cl fs m ⟨rfl, rfl, rfl⟩
    exact ⟨rfl, rfl, rfl⟩
  | @d0 t l N _ k0 k1 k2 =>
    refine .inl ⟨2, by decide, rfl, fun W => wr_if ?_⟩
    walk_at "WK"
    refine ⟨fun _ => ?_, (fun z => nomatch z)⟩
    refine wr_drop (wq_callM (fun _ _ _ _ z => .inr (.inr (.inr z))) rfl ?_)
    walk_at "WK"
    refine ⟨(t, l, N, three), rfl, ⟨k0, k1, k2⟩, ?_⟩
    rintro cl fs m ⟨rfl, rfl, rfl⟩
    exact ⟨rfl, rfl, rfl⟩
  | @f0 t l N i hE h0 h1 h2 =>
    refine .inr ⟨rfl, fun W P hP => ws_if ?_⟩
    walk_at "WK"
    refine ⟨fun _ => ?_, (fun z => nomatch z)⟩
    refine ws_drop (wp_callM (fun _ _ _ _ z => .inl z) rfl ?_)
    walk_at "WK"
    refine ⟨(t, l, N, i), rfl, ⟨hE, h0, h1, h2⟩, ?_⟩
    rintro d m ⟨rfl, rfl⟩
    exact ⟨rfl, hP⟩
  | e1 ne =>
    refine .inl ⟨0, by decide, rfl, fun W => wr_if ?_⟩
    walk_at "WK"
    refine ⟨(fun z => nomatch z), fun _ => wr_if ?_⟩
    walk_at "WK"
    refine ⟨fun _ => ?_, (fun z => nomatch z)⟩
    refine wr_drop (wq_callM (fun _ _ _ _ z => .inr (.inl z)) rfl ?_)
    walk_at "WK"
    refine ⟨by rw [List.all_cons, ne.ok]; rfl, (⟨one, hone⟩, two, three), by rw [List.map_cons, ne.ar]; rfl, ne, ?_⟩
    rintro cl fs m ⟨rfl, rfl, rfl⟩
    exact ⟨rfl, rfl, rfl⟩
  | @d1 t l _ _ k1 k2 =>
    refine .inl ⟨2, by decide, rfl, fun W => wr_if ?_⟩
    walk_at "WK"
    refine ⟨(fun z => nomatch z), fun _ => wr_if ?_⟩
    walk_at "WK"
    refine ⟨fun _ => ?_, (fun z => nomatch z)⟩
    refine wr_drop (wq_callM (fun _ _ _ _ z => .inr (.inr (.inl z))) rfl ?_)
    walk_at "WK"
    refine ⟨(t, l, two, three), rfl, ⟨k1, k2⟩, ?_⟩
    rintro cl fs m ⟨rfl, rfl, rfl⟩
    exact ⟨rfl, rfl, rfl⟩
  | @s1 t l i _ k0 k1 k2 =>
    refine .inl ⟨3, by decide, rfl, fun W => wr_if ?_⟩
    walk_at "WK"
    refine ⟨(fun z => nomatch z), fun _ => wr_if ?_⟩
    walk_at "WK"
    refine ⟨fun _ => ?_, (fun z => nomatch z)⟩
    refine wr_drop (wq_callM (fun _ _ _ _ z => .inr (.inr (.inr z))) rfl ?_)
    walk_at "WK"
    refine ⟨(t, l, i, three), rfl, ⟨k0, k1, k2⟩, ?_⟩
    rintro cl fs m ⟨rfl, rfl, rfl⟩
    exact ⟨rfl, rfl, rfl⟩
  | @f1 t l i s hE h0 h1 h2 =>
    refine .inr ⟨rfl, fun W P hP => ws_if ?_⟩
    walk_at "WK"
    refine ⟨(fun z => nomatch z), fun _ => ws_if ?_⟩
    walk_at "WK"
    refine ⟨fun _ => ?_, (fun z => nomatch z)⟩
    refine ws_drop (wp_callM (fun _ _ _ _ z => .inl z) rfl ?_)
    walk_at "WK"
    refine ⟨(t, l, i, s), rfl, ⟨hE, h0, h1, h2⟩, ?_⟩
    rintro d m ⟨r, hr, rfl, rfl⟩
    exact ⟨by cases r <;> rfl, hP⟩
  | e2 ne =>
    refine .inl ⟨0, by decide, rfl, fun W => wr_if ?_⟩
    walk_at "WK"
    refine ⟨(fun z => nomatch z), fun _ => wr_if ?_⟩
    walk_at "WK"
    refine ⟨(fun z => nomatch z), fun _ => ?_⟩
    refine wr_drop (wq_callM (fun _ _ _ _ z => .inr (.inl z)) rfl ?_)
    walk_at "WK"
    refine ⟨by rw [List.all_cons, ne.ok]; rfl, ⟨one, hone⟩, by rw [List.map_cons, ne.ar]; rfl, ne, ?_⟩
    rintro cl fs m ⟨rfl, rfl, rfl⟩
    exact ⟨rfl, rfl, rfl⟩
  | @b2 t l _ _ k1 k2 =>
    refine .inl ⟨4, by decide, rfl, fun W => wr_if ?_⟩
    walk_at "WK"
    refine ⟨(fun z => nomatch z), fun _ => wr_if ?_⟩
    walk_at "WK"
    refine ⟨(fun z => nomatch z), fun _ => ?_⟩
    refine wr_drop (wq_callM (fun _ _ _ _ z => .inr (.inr z)) rfl ?_)
    walk_at "WK"
    refine ⟨(t, l), rfl, ⟨k1, k2⟩, ?_⟩
    rintro cl fs m ⟨rfl, rfl, rfl⟩
    exact ⟨rfl, rfl, rfl⟩
  | @f2 t l _ _ k1 k2 =>
    refine .inr ⟨rfl, fun W P hP => ws_if ?_⟩
    walk_at "WK"
    refine ⟨(fun z => nomatch z), fun _ => ws_if ?_⟩
    walk_at "WK"
    refine ⟨(fun z => nomatch z), fun _ => ?_⟩
    refine ws_drop (wp_callM (fun _ _ _ _ z => .inl z) rfl ?_)
    walk_at "WK"
    refine ⟨(t, l), rfl, ⟨k1, k2⟩, ?_⟩
    rintro d m ⟨rfl, rfl⟩
    exact ⟨rfl, hP⟩
section
variable {P : Program} {w : World} {K : PySem.W.Frag} {mg : Str → Option Value} {base : Heap} {f C CT : Addr} {fd : FuncData}
abbrev sp__law_told (K : PySem.W.Frag) (C : Addr) : Sp := SpX (ι := Int × Dn × PyData × PyData × Str) K (fun x => [.py (.int x.1), x.2.1.1, .py x.2.2.1, .py x.2.2.2.1]) (fun x _ => ShX 5 1000 x.2.2.1 ∧ ShX 5 1000 x.2.2.2.1 ∧ TC K C x.1 x.2.1.1 x.2.2.1 x.2.2.2.1 x.2.2.2.2) fun x n d m => d = .py (.str x.2.2.2.2) ∧ m = n
theorem ln__law_told (x : Int × Dn × PyData × PyData × Str) : [D.py (.int x.1), x.2.1.1, .py x.2.2.1, .py x.2.2.2.1].length = 4 := rfl
theorem nm__law_told (x : Int × Dn × PyData × PyData × Str) : [D.py (.int x.1), x.2.1.1, .py x.2.2.1, .py x.2.2.2.1].all D.nm = true := by rw [List.all_cons, List.all_cons, x.2.1.2]; rfl
theorem sc__law_told : FnScope ["door", "one", "two", "three", "e", "kept", "caught"] ["door", "one", "two", "three"] (defScope (top 90)) := ⟨rfl, rfl, rfl, by decide +kernel, rfl, by decide +kernel, by decide +kernel⟩
theorem ok__law_told (F : FnP K "_law_told" "_law_told" (top 90) f fd) (g_repr : mg "repr" = none) (R_cell_after : StdE P w K mg base 4 "cell_after" ["effect", "times", "depth"] (SpO (sp_cell_after K C) (SpO (spr_cell_afterE K C (He.ga K "InvalidEffect")) (SpO (spr_cell_afterT K C (He.ga K "InvalidTimes")) (spr_cell_afterD K C (He.ga K "InvalidDepth")))))) (R_first_time : StdE P w K mg base 6 "first_time" ["effect", "depth", "source"] (SpO (sp_first_time K C) (SpO (spr_first_timeE K C (He.ga K "InvalidEffect")) (SpO (spr_first_timeD K C (He.ga K "InvalidDepth")) (spr_first_timeS K C (He.ga K "InvalidSource")))))) (R_settles : StdE P w K mg base 3 "settles" ["effect"] (SpO (sp_settles K C) (SpO (spr_settlesE K C (He.ga K "InvalidEffect")) (spr_settlesB K C (He.ga K "NotBalanced"))))) (S__law_class : Std P w K mg base 1 "_law_class" ["caught"] (sp__law_class K)) (gSE : mg "StackError" = some (.ref (He.ga K "StackError"))) (XS : ∀ j, j < 5 → PySem.W.exmOne K (.ref (He.ga K (rn j).1)) (.ref (He.ga K "StackError")) = some true) : FnG P w K mg base 9 f fd ["door", "one", "two", "three"] (sp__law_told K C) := by
  refine fng_of F sc__law_told (sx_len ln__law_told) (fun cdv A outer s H vs Q E hr gd h => ?_)
  have nd := sc__law_told.nd
  refine ⟨_, PSs.nox (pss_cons (ps_par (i := 5) (j := 6) rfl nd rfl rfl (by decide) rfl rfl (pa_cons (pe_callB (reprDK (K := K) rfl gd hr) rfl g_repr bt_repr (pa_cons (pe_lst (pa_cons (pv 2) (pa_cons (pv 3) (pa_nil)))) (pa_nil))) (pa_cons (pe_non) (pa_nil))) rfl)
 (pss_cons (ps_try_keep (i := 4) rfl rfl nd rfl rfl ⟨rfl, by decide, .inl gSE⟩ takes0 (fun W pn xe tk _ => pss_one (ps_if (pt_cmpR (eqK (K := K) rfl (room64 hr)) (pv 0) (pe_int) (nomark _)) (pss_one (ps_expr (pe_stdE R_cell_after (hr.mono (by decide)) tk rfl (pa_cons (pv 1) (pa_cons (pv 2) (pa_cons (pv 3) (pa_nil))))))) (pss_one (ps_if (pt_cmpR (eqK (K := K) rfl (room64 hr)) (pv 0) (pe_int) (nomark _)) (pss_one (ps_expr (pe_stdE R_first_time (hr.mono (by decide)) tk rfl (pa_cons (pv 1) (pa_cons (pv 2) (pa_cons (pv 3) (pa_nil))))))) (pss_one (ps_expr (pe_stdE R_settles (hr.mono (by decide)) tk rfl (pa_cons (pv 1) (pa_nil))))))))) (fun a pn => pss_one (ps_set (i := 6) nd rfl (Or.inl rfl) (pv 4))))
 (pss_cons (ps_if (pt_cmpR op_ne (pe_callB (reprDK (K := K) rfl gd hr) rfl g_repr bt_repr (pa_cons (pe_lst (pa_cons (pv 2) (pa_cons (pv 3) (pa_nil)))) (pa_nil))) (pv 5) (nomark _)) (pss_one (ps_ret (pe_str))) (pss_nil))
 (pss_one (ps_ret (pe_ifExp (pt_cmpR opISN (pv 6) (pe_non) (nomark _)) (pe_str) (pe_std S__law_class (hr.mono (by decide)) rfl (pa_cons (pv 6) (pa_nil))))))))), ?_⟩
  refine body_x nm__law_told ?_ vs H Q E h
  clear h hr gd
  intro c n x hK hp
  (subst hK)
  try clear g_repr R_cell_after R_first_time R_settles S__law_class F
  obtain ⟨door, ⟨one, hone⟩, two, three, u⟩ := x
  obtain ⟨h1, h2, h3⟩ : ShX 5 1000 two ∧ ShX 5 1000 three ∧ TC c.K C door one two three u := hp
  dsimp only
  walk_at "WK"
  refine cw_reprD rfl (shX_two h1 h2) (by decide) (by decide) ?_
  walk_at "WK"
  rcases told_body (kk := (PyData.list [two, three]).shown) (n := n) h3 hone with ⟨j, hj, rfl, hb⟩ | ⟨rfl, hb⟩
  · refine ws_tryK (tb := tbTold c.K C) hb ?_
    rintro cl fs e' ⟨rfl, rfl, rfl⟩
    refine ⟨rfl, XS j hj, by show 4 < 7; decide, ?_⟩
    walk_at "WK"
    refine cw_reprD rfl (shX_two h1 h2) (by decide) (by decide) ?_
    walk_at "WK"
    refine ⟨(fun z => nomatch z), fun _ => ?_⟩
    walk_at "WK"
    refine rw_isNO ?_
    walk_at "WK"
    refine ⟨(fun z => nomatch z), fun _ => ?_⟩
    walk_at "WK"
    refine ⟨j, rfl, hj, ?_⟩
    rintro d m ⟨rfl, rfl⟩
    exact ⟨rfl, rfl, rfl⟩
  · refine ws_tryKN (tb := tbTold c.K C) fun W => hb W _ ?_
    walk_at "WK"
    refine cw_reprD rfl (shX_two h1 h2) (by decide) (by decide) ?_
    walk_at "WK"
    refine ⟨(fun z => nomatch z), fun _ => ?_⟩
    walk_at "WK"
    refine rw_isNN ?_
    walk_at "WK"
    refine ⟨fun _ => ?_, (fun z => nomatch z)⟩
    walk_at "WK"
    exact rfl
end
end Wx

/-! ### part Kp -/
set_option Elab.async false
set_option linter.all false
set_option maxRecDepth 100000
set_option maxHeartbeats 1000000
set_option autoImplicit false
namespace Wx
open PySem L2

theorem at4 {i j k q r : Int} (p : Int → Prop) (hi : p i) (hj : p j) (hk : p k) (hq : p q) (h0 : 0 ≤ r) (h1 : r < 4) : ∃ v, atI [PyData.int i, .int j, .int k, .int q] r = some (.int v) ∧ p v := by
  have q : r = 0 ∨ r = 1 ∨ r = 2 ∨ r = 3 := by omega
  rcases q with rfl | rfl | rfl | rfl
  · exact ⟨i, rfl, hi⟩
  · exact ⟨j, rfl, hj⟩
  · exact ⟨k, rfl, hk⟩
  · exact ⟨_, rfl, hq⟩
def fitS (T : Int) : Src → Src
  | .inp p => if T = 0 then .lit 1 else .inp p
  | .lit v => .lit v
def modS (T : Int) : Src → Src
  | .inp p => .inp (p.fmod T)
  | .lit v => .lit v
theorem cut_ok4 {t : Int} {l : List Src} (h : okE t l) : okE (cut t l).1 (cut t l).2 ∧ cut (cut t l).1 (cut t l).2 = cut t l := ⟨cut_ok h, cut_cut _ _⟩
section
variable {P : Program} {w : World} {K : PySem.W.Frag} {mg : Str → Option Value} {base : Heap} {f C : Addr} {fd : FuncData}
abbrev sp__law_shaped (K : PySem.W.Frag) : Sp := SpX (ι := Int) K (fun x => [.kln, .py (.int x)]) (fun x n => 4 ≤ x ∧ x ≤ 100 ∧ n < 2 ^ 98) fun _ n d m => ∃ t l, d = .py (.tuple [.int t, srcs l]) ∧ okE t l ∧ cut t l = (t, l) ∧ m ≤ n + 1010
theorem ln__law_shaped (x : Int) : [D.kln, .py (.int x)].length = 2 := rfl
theorem nm__law_shaped (x : Int) : [D.kln, .py (.int x)].all D.nm = true := rfl
theorem sc__law_shaped : FnScope ["kiln", "most", "way", "taken_here", "left_here", "more", "found", "kind", "worth"] ["kiln", "most"] (defScope (top 88)) := ⟨rfl, rfl, rfl, by decide +kernel, rfl, by decide +kernel, by decide +kernel⟩
theorem ok__law_shaped (F : FnP K "_law_shaped" "_law_shaped" (top 88) f fd) (S__law_made : Std P w K mg base 2 "_law_made" ["kiln", "most"] (sp__law_made K)) (S__law_scoop : Std P w K mg base 1 "_law_scoop" ["kiln", "bound"] (sp__law_scoop K)) (g_max : mg "max" = none) (g_tuple : mg "tuple" = none) (g_min : mg "min" = none) (g_len : mg "len" = none) (S__law_cut : Std P w K mg base 1 "_law_cut" ["taken_here", "left_here"] (sp__law_cut K)) : FnOk P w K mg base CX0 3 f fd ["kiln", "most"] (sp__law_shaped K) := by
  refine F.ok sc__law_shaped (sx_len ln__law_shaped) (fun cdv A outer s H vs Q E hr h => ?_)
  have nd := sc__law_shaped.nd
  refine ⟨_, PSs.nox (pss_cons (ps_asg (pe_std S__law_made hr rfl (pa_cons (pv 0) (pa_cons (pv 1) (pa_nil)))) (gtupK (K := K) (n := 2) rfl rfl (pgs_cons (pg_name (i := 3) nd rfl (Or.inr rfl)) (pgs_cons (pg_name (i := 4) nd rfl (Or.inl rfl)) (pgs_nil)))))
 (pss_cons (ps_set (i := 2) nd rfl (Or.inl rfl) (pe_std S__law_scoop (hr.mono (by decide)) rfl (pa_cons (pv 0) (pa_cons (pe_int) (pa_nil)))))
 (pss_cons (ps_if (pt_cmpR op_gt (pv 2) (pe_int) (nomark _)) (pss_cons (ps_set (i := 5) nd rfl (Or.inl rfl) (pe_ix (ixK (K := K) rfl) (pe_lst (pa_cons (pe_int) (pa_cons (pe_int) (pa_cons (pe_op (addK (K := K) rfl) (pe_int) (pe_std S__law_scoop (hr.mono (by decide)) rfl (pa_cons (pv 0) (pa_cons (pe_int) (pa_nil))))) (pa_cons (pe_op op_sub (pe_op op_sub (pe_int) (pe_int)) (pe_std S__law_scoop (hr.mono (by decide)) rfl (pa_cons (pv 0) (pa_cons (pe_int) (pa_nil))))) (pa_nil)))))) (pv 2) (fun _ _ => rfl)))
 (pss_cons (ps_set (i := 3) nd rfl (Or.inr rfl) (pe_callB (callMAX2 rfl) rfl g_max bt_max (pa_cons (pe_int) (pa_cons (pe_callB (callMIN2 rfl) rfl g_min bt_min (pa_cons (pe_int) (pa_cons (pe_op (addK (K := K) rfl) (pe_callB (lenK (K := K) rfl) rfl g_len PySem.boot_len (pa_cons (pv 4) (pa_nil))) (pv 5)) (pa_nil)))) (pa_nil)))))
 (pss_cons (ps_setO (i := 6) nd rfl (Or.inl rfl) (pe_lst (pa_nil)))
 (pss_cons (ps_for PassesOwn.never rfl (itupK (K := K) rfl (pv 4)) (gtupK (K := K) (n := 2) rfl rfl (pgs_cons (pg_name (i := 7) nd rfl (Or.inl rfl)) (pgs_cons (pg_name (i := 8) nd rfl (Or.inl rfl)) (pgs_nil)))) (pss_one (ps_expr (pe_bm PySem.F.plainAttrs_list PySem.F.slot_list_append PySem.F.type_list_append mt_append (pv 6) (pa_cons (pe_ifExp (PW.pt (pw_and (pt_cmpR (eqK (K := K) rfl (room64 hr)) (pv 7) (pe_str) (nomark _)) (pw_and1 (pt_cmpR (eqK (K := K) rfl (room64 hr)) (pv 3) (pe_int) (nomark _))))) (pe_tup (pa_cons (pe_str) (pa_cons (pe_int) (pa_nil)))) (pe_tup (pa_cons (pv 7) (pa_cons (pv 8) (pa_nil))))) (pa_nil))))))
 (pss_one (ps_set (i := 4) nd rfl (Or.inl rfl) (pe_callTy (tupK (K := K) rfl) rfl g_tuple bt_tuple (pa_cons (pe_lc (own := [("kind", 7), ("worth", 8)]) rfl nd (ilistK (K := K) rfl (pv 6)) (blkOk_by (N := ["kiln", "most", "way", "taken_here", "left_here", "more", "found", "kind", "worth"]) (sc := (defScope (top 88))) (by decide +kernel)) (fun _ _ _ _ _ => gtupK (K := K) (n := 2) rfl rfl (pgs_cons (pg_name (i := 7) nd rfl (Or.inl rfl) (.inr rfl)) (pgs_cons (pg_name (i := 8) nd rfl (Or.inl rfl) (.inr rfl)) (pgs_nil)))) (fun _ _ _ _ _ => pts_nil) (fun _ _ _ _ _ => pe_tup (pa_cons (pv 7) (pa_cons (pe_ifExp (pt_cmpR (eqK (K := K) rfl (room64 hr)) (pv 7) (pe_str) (nomark _)) (pe_op op_modN (pv 8) (pv 3)) (pv 8)) (pa_nil))))) (pa_nil))))))))) (pss_nil))
 (pss_one (ps_ret (pe_std S__law_cut (hr.mono (by decide)) rfl (pa_cons (pv 3) (pa_cons (pv 4) (pa_nil))))))))), ?_⟩
  refine body_x nm__law_shaped ?_ vs H Q E h
  clear h hr
  intro c n x hK hp
  (subst hK)
  try clear S__law_made S__law_scoop g_max g_tuple g_min g_len S__law_cut F
  obtain ⟨x4, x100, hn⟩ : 4 ≤ x ∧ x ≤ 100 ∧ n < 2 ^ 98 := hp
  walk_at "WK"
  refine ⟨x, rfl, ⟨x4, x100, by (try dsimp only); omega⟩, ?_⟩
  rintro d m ⟨t, l, rfl, hM, hm⟩
  refine ⟨rfl, ?_⟩
  walk_at "WK"
  refine ⟨_, rfl, by decide, by decide, by (try dsimp only at hm); omega, fun way w0 w1 => ⟨rfl, ?_⟩⟩
  walk_at "WJ"
  have hE : okE t l := ⟨hM.1, by have := hM.2.1; omega, by have := hM.2.2.1; omega, hM.2.2.2⟩
  have hl1 := hE.2.2.1
  refine ws_join (fun e1 => ∃ (t' : Int) (l' : List Src) (s5 s6 s7 s8 : Slo) (m' : Nat), okE t' l' ∧ m' ≤ m + 3 ∧ e1 = ⟨[.val .kln, .val (.py (.int x)), .val (.py (.int way)), .val (.py (.int t')), .val (.py (srcs l')), s5, s6, s7, s8], m'⟩) ?_ ?_
  · walk_at "WK"
    refine ⟨fun c1 => ?_, fun c1 => ?_⟩
    · have c1' := of_decide_eq_true c1
      walk_at "WK"
      refine ⟨_, rfl, by decide, by decide, by (try dsimp only at hm); (try dsimp only); omega, fun r1 a1 b1 => ?_⟩
      walk_at "WK"
      refine ⟨_, rfl, by decide, by decide, by (try dsimp only at hm); (try dsimp only); omega, fun r2 a2 b2 => ?_⟩
      walk_at "WK"
      obtain ⟨more, em, hm0, hm1⟩ := at4 (fun v => -4 ≤ v ∧ v ≤ 4) (i := 0) (j := 0) (k := 1 + r1) (q := 0 - 1 - r2) (r := way) (by omega) (by omega) (by omega) (by omega) w0 w1
      refine ⟨_, em, ?_⟩
      clear em
      walk_at "WK"
      rw [pys_len]
      generalize hT : (if (if (l.length : Int) + more < 100 then (l.length : Int) + more else 100) > 0 then (if (l.length : Int) + more < 100 then (l.length : Int) + more else 100) else 0) = T
      have hT01 : 0 ≤ T ∧ T ≤ 100 := by rw [← hT]; split <;> split at * <;> omega
      refine ws_mid (fun e1 => ∃ (q : List Src) (s7 s8 : Slo), q = l.map (fitS T) ∧ e1 = ⟨[.val .kln, .val (.py (.int x)), .val (.py (.int way)), .val (.py (.int T)), .val (.py (srcs l)), .val (.py (.int more)), .own (.lst (pys q)), s7, s8], m + 3⟩) ?_ ?_
      · refine ws_for [7, 8] (wi_tup rfl ?_)
        walk_at "WK"
        refine ⟨fun i e1 => ∃ (q : List Src) (s7 s8 : Slo), q = (l.take i).map (fitS T) ∧ e1 = ⟨[.val .kln, .val (.py (.int x)), .val (.py (.int way)), .val (.py (.int T)), .val (.py (srcs l)), .val (.py (.int more)), .own (.lst (pys q)), s7, s8], m + 3⟩, ⟨[], _, _, by simp, rfl⟩, ?_, ?_⟩
        · rintro i d e1 hd ⟨q, s7, s8, rfl, rfl⟩
          obtain ⟨s, hi, hs, rfl⟩ := pys_item hd
          have hil : i < l.length := (List.getElem?_eq_some_iff.mp hi).1
          have hz : (pys ((l.take i).map (fitS T))).length < sizeLine := by rw [pys_len, List.length_map, List.length_take]; exact Nat.lt_of_le_of_lt (m := 1000) (by omega) (by decide)
          have fin : pys ((l.take i).map (fitS T)) ++ [(fitS T s).py] = pys ((l.take (i + 1)).map (fitS T)) := by
            rw [List.take_succ, hi, List.map_append, ← pys_app]
            rfl
          cases s with
          | inp p =>
            rw [show (Src.inp p).py = .tuple [.str "in", .int p] from rfl]
            refine wg_pair rfl ⟨_, _, rfl, wg_name ⟨rfl, wg_name ⟨rfl, ?_⟩ (Nat.le_of_ble_eq_true rfl) (by decide)⟩ (Nat.le_of_ble_eq_true rfl) (by decide)⟩
            walk_at "WK"
            refine ⟨fun _ => ?_, fun z => (nomatch z)⟩
            walk_at "WK"
            have ef : fitS T (.inp p) = if T = 0 then .lit 1 else .inp p := rfl
            refine ⟨fun c2 => ?_, fun c2 => ?_⟩
            · have c2' := of_decide_eq_true c2
              rw [ef, if_pos c2'] at fin
              walk_at "WK"
              exact ⟨_, rfl, hz, _, _, _, rfl, by rw [← fin]; rfl⟩
            · have c2' := of_decide_eq_false c2
              rw [ef, if_neg c2'] at fin
              walk_at "WK"
              exact ⟨_, rfl, hz, _, _, _, rfl, by rw [← fin]; rfl⟩
          | lit v =>
            rw [show (Src.lit v).py = .tuple [.str "lit", .int v] from rfl]
            refine wg_pair rfl ⟨_, _, rfl, wg_name ⟨rfl, wg_name ⟨rfl, ?_⟩ (Nat.le_of_ble_eq_true rfl) (by decide)⟩ (Nat.le_of_ble_eq_true rfl) (by decide)⟩
            walk_at "WK"
            refine ⟨(fun z => nomatch z), fun _ => ?_⟩
            refine ⟨(fun z => nomatch z), fun _ => ?_⟩
            walk_at "WK"
            exact ⟨_, rfl, hz, _, _, _, rfl, by rw [← fin]; rfl⟩
        · rintro e1 ⟨q, s7, s8, rfl, rfl⟩
          refine ⟨_, s7, s8, rfl, ?_⟩
          rw [List.length_map, pys_len, List.take_length]
      · rintro e1 ⟨q, s7, s8, hq, rfl⟩
        have hqs : ∀ s ∈ q, ∀ p, s = .inp p → T ≠ 0 := by
          intro s hs p e
          rw [hq] at hs
          obtain ⟨u, hu, e2⟩ := List.mem_map.mp hs
          cases u with
          | inp r =>
            intro z
            rw [e, show fitS T (.inp r) = if T = 0 then .lit 1 else .inp r from rfl, if_pos z] at e2
            cases e2
          | lit v => rw [e] at e2; cases e2
        have hql : q.length = l.length := by rw [hq, List.length_map]
        have hqv : ∀ s ∈ q, ∀ v, s = .lit v → -(10 ^ 30) ≤ v ∧ v ≤ 10 ^ 30 := by
          intro s hs v e
          rw [hq] at hs
          obtain ⟨u, hu, e2⟩ := List.mem_map.mp hs
          cases u with
          | inp r =>
            rw [e, show fitS T (.inp r) = if T = 0 then .lit 1 else .inp r from rfl] at e2
            split at e2
            · cases e2; exact ⟨by decide, by decide⟩
            · cases e2
          | lit v' =>
            rw [e] at e2
            cases e2
            exact hE.2.2.2 _ hu
        have hE2 : okE T (q.map (modS T)) := by
          refine ⟨hT01.1, hT01.2, by rw [List.length_map, hql]; exact hl1, fun s hs => ?_⟩
          obtain ⟨u, hu, rfl⟩ := List.mem_map.mp hs
          cases u with
          | inp r =>
            have := hqs _ hu r rfl
            have := pos_fmod (i := r) (j := T) (by omega)
            exact this
          | lit v => exact hqv _ hu v rfl
        walk_at "WK"
        refine wp_new (wn_lc (fun v hv => ?_) (wi_list rfl ?_))
        · have : v = 7 ∨ v = 8 := by simpa using hv
          rcases this with rfl | rfl <;> exact Nat.le_of_ble_eq_true rfl
        · walk_at "WK"
          refine ⟨rfl, fun i acc m' => m' = m + 3 ∧ acc = pys ((q.take i).map (modS T)), ⟨rfl, rfl⟩, by rw [List.length_map, pys_len]; omega, ?_, ?_⟩
          · rintro i acc m' d hd ⟨rfl, rfl⟩
            obtain ⟨s, hi, hs, rfl⟩ := pys_item hd
            have fin : pys ((q.take i).map (modS T)) ++ [(modS T s).py] = pys ((q.take (i + 1)).map (modS T)) := by
              rw [List.take_succ, hi, List.map_append, ← pys_app]
              rfl
            cases s with
            | inp p =>
              have hTn := hqs _ hs p rfl
              rw [show (Src.inp p).py = .tuple [.str "in", .int p] from rfl]
              refine wg_pair rfl ⟨_, _, rfl, wg_name ⟨rfl, wg_name ⟨rfl, ?_⟩ (Nat.le_of_ble_eq_true rfl) (by decide)⟩ (Nat.le_of_ble_eq_true rfl) (by decide)⟩
              refine wt_yes ⟨fun _ => ?_, fun z => nomatch z⟩
              walk_at "WK"
              refine ⟨fun _ => ?_, fun z => (nomatch z)⟩
              walk_at "WK"
              exact fin
            | lit v =>
              rw [show (Src.lit v).py = .tuple [.str "lit", .int v] from rfl]
              refine wg_pair rfl ⟨_, _, rfl, wg_name ⟨rfl, wg_name ⟨rfl, ?_⟩ (Nat.le_of_ble_eq_true rfl) (by decide)⟩ (Nat.le_of_ble_eq_true rfl) (by decide)⟩
              refine wt_yes ⟨fun _ => ?_, fun z => nomatch z⟩
              walk_at "WK"
              refine ⟨(fun z => nomatch z), fun _ => ?_⟩
              walk_at "WK"
              exact fin
          · rintro acc m' ⟨rfl, rfl⟩
            rw [List.length_map, pys_len, List.take_length]
            walk_at "WK"
            exact ⟨T, q.map (modS T), _, _, _, _, _, hE2, Nat.le_refl _, rfl⟩
    · walk_at "WK"
      exact ⟨t, l, _, _, _, _, _, hE, by (try dsimp only); omega, rfl⟩
  · rintro e1 ⟨t', l', s5, s6, s7, s8, m', hE', hm', rfl⟩
    walk_at "WK"
    refine ⟨(t', l'), rfl, trivial, ?_⟩
    rintro d m ⟨rfl, rfl⟩
    refine ⟨rfl, ?_⟩
    have hc := cut_ok4 hE'
    exact ⟨_, _, rfl, hc.1, by rw [hc.2], by (try dsimp only at hm); (try dsimp only); omega⟩
end
end Wx

/-! ### part Kq -/
set_option Elab.async false
set_option linter.all false
set_option maxRecDepth 100000
set_option maxHeartbeats 1000000
set_option autoImplicit false
/-! _law_right. -/
namespace Wx
open PySem L2

def shB (p : PyData) : Bool := p.showable && (p.leavesShort 80 && (decide (p.depth ≤ 5) && decide (p.weight ≤ 1000)))
theorem shX_of {p : PyData} (h : shB p = true) : ShX 5 1000 p := by
  simp only [shB, Bool.and_eq_true, decide_eq_true_eq] at h
  exact ⟨h.1, h.2.1, h.2.2.1, h.2.2.2⟩
theorem shX_int {i : Int} (h : i.natAbs < 10 ^ 70) : ShX 5 1000 (.int i) := (sh_mono (sh_int (k := 0) h) (by decide) (by decide)).x
theorem shX_src {s : Src} (h : smS s) : ShX 5 1000 s.py := (sh_mono (sh_src h) (by decide) (by decide)).x
theorem dT : joinT (toks (.dow .d .nil)) = "d" := by decide +kernel
theorem dOk : okNs (.dow .d .nil) := by
  refine ⟨?_, ?_, ?_, ?_⟩
  · unfold wfN; exact ⟨True.intro, True.intro⟩
  · decide
  · decide
  · decide
def oddL (r : Int) : List PyData := [.none, .bool true, .bool false, .str "1", .tuple [.int 1], .list [.int 1], .dict [], .int (-1), .int (-2 - r), .int (0 - 10 ^ 60)]
def badT (q : Int) : List PyData := [.int (10 ^ 30 + 1), .int (10 ^ 60), .int (10 ^ 30 + 2 + q)]
def wrongL : List PyData := [.none, .int 0, .str "in", .tuple [.str "in"], .tuple [.str "in", .int 0, .int 0], .list [.str "in", .int 0], .tuple [.str "in", .none], .tuple [.str "in", .bool true], .tuple [.str "in", .str "0"], .tuple [.str "in", .int (-1)], .tuple [],
  .tuple [.str "lit", .none], .tuple [.str "lit", .bool true], .tuple [.str "lit", .str "1"], .tuple [.str "lit", .int (10 ^ 30 + 1)], .tuple [.str "lit", .int (0 - 10 ^ 30 - 1)], .dict [],
  .tuple [.str "on", .int 0], .tuple [.str "", .int 0], .tuple [.int 0, .int 0], .tuple [.none, .int 1], .tuple [.tuple [.str "in", .int 0]], .tuple [.str "in", .list [.int 0]], .tuple [.str "IN", .int 0], .tuple [.str "in ", .int 0]]
def knSB (p : PyData) : Bool := (tyN (.py p)).isSome && match p with
  | .tuple [a, b] => (tyN (.py a)).isSome && ((tyN (.py b)).isSome && SeqAt.shaped a)
  | _ => true
theorem knS_of {p : PyData} (h : knSB p = true) : knS p := by
  unfold knSB at h
  rw [Bool.and_eq_true] at h
  refine ⟨h.1, fun a b e => ?_⟩
  subst e
  have h2 := h.2
  simp only [Bool.and_eq_true] at h2
  exact ⟨h2.1, h2.2.1, h2.2.2⟩
theorem wrong_bad : ∀ p ∈ wrongL, knS p ∧ isSrcP p = false ∧ ShX 5 1000 p := by
  have z : wrongL.all (fun p => knSB p && (!isSrcP p && shB p)) = true := by decide +kernel
  intro p hp
  have y := List.all_eq_true.mp z p hp
  simp only [Bool.and_eq_true, Bool.not_eq_true'] at y
  exact ⟨knS_of y.1, y.2.1, shX_of y.2.2⟩
theorem odd_bad {r : Int} (h0 : 0 ≤ r) (h1 : r < 99) : ∀ p ∈ oddL r, kn p ∧ inRP p 0 (10 ^ 30) = false ∧ badDp p = true ∧ ShX 5 1000 p := by
  intro p hp
  simp only [oddL, List.mem_cons, List.not_mem_nil, or_false] at hp
  rcases hp with rfl | rfl | rfl | rfl | rfl | rfl | rfl | rfl | rfl | rfl
  · exact ⟨rfl, rfl, rfl, shX_of (by decide +kernel)⟩
  · exact ⟨rfl, rfl, rfl, shX_of (by decide +kernel)⟩
  · exact ⟨rfl, rfl, rfl, shX_of (by decide +kernel)⟩
  · exact ⟨rfl, rfl, rfl, shX_of (by decide +kernel)⟩
  · exact ⟨rfl, rfl, rfl, shX_of (by decide +kernel)⟩
  · exact ⟨rfl, rfl, rfl, shX_of (by decide +kernel)⟩
  · exact ⟨rfl, rfl, rfl, shX_of (by decide +kernel)⟩
  · exact ⟨rfl, by decide, by decide, shX_of (by decide +kernel)⟩
  · exact ⟨rfl, decide_eq_false (by omega), decide_eq_true (by omega), shX_int (by omega)⟩
  · exact ⟨rfl, by decide +kernel, by decide +kernel, shX_int (by decide +kernel)⟩
theorem badT_bad {q : Int} (h0 : 0 ≤ q) (h1 : q < 99) : ∀ p ∈ badT q, kn p ∧ inRP p 0 (10 ^ 30) = false ∧ ShX 5 1000 p := by
  intro p hp
  simp only [badT, List.mem_cons, List.not_mem_nil, or_false] at hp
  rcases hp with rfl | rfl | rfl
  · exact ⟨rfl, by decide +kernel, shX_int (by decide +kernel)⟩
  · exact ⟨rfl, by decide +kernel, shX_int (by decide +kernel)⟩
  · exact ⟨rfl, decide_eq_false (by omega), shX_int (by omega)⟩
section
variable {c : Cy} {C : Addr}
theorem rw_neL {K : PySem.W.Frag} {n : Nat} {Φ : D → Nat → Prop} {xs ys : List PyData} (hK : K = c.K) (s1 : SeqAt.shaped (.list xs) = true) (s2 : SeqAt.shaped (.list ys) = true) (e : PyData.eqv (.list xs) (.list ys) = true) (h : Φ (.py (.bool false)) n) : Rw c (rNeD K) (outO (.lst xs)) (outO (.lst ys)) n Φ :=
  rw_ne hK (pd_out (pd_out ⟨s1, s2, by rw [e]; exact h⟩))
theorem tf0 {K : PySem.W.Frag} {t : Int} {l : List Src} {i : Int} (hE : okE t l) (h0 : 0 ≤ i) (h1 : i < 2 ^ 300) : TC K C 0 (effD C t l) (.int 0) (.int i) "fine" := TC.f0 (N := 0) hE h0 h1 (by decide)
theorem tf30 {K : PySem.W.Frag} {t : Int} {l : List Src} {i : Int} (hE : okE t l) (h0 : 0 ≤ i) (h1 : i < 2 ^ 300) : TC K C 0 (effD C t l) (.int (10 ^ Int.toNat 30)) (.int i) "fine" := TC.f0 (N := 10 ^ 30) hE h0 h1 (by decide)
theorem td0 {K : PySem.W.Frag} {t : Int} {l : List Src} {q : PyData} (h1 : kn q) (h2 : badDp q = true) : TC K C 0 (effD C t l) (.int 0) q "depth" := TC.d0 (N := 0) (by decide) h1 h2
theorem td30 {K : PySem.W.Frag} {t : Int} {l : List Src} {q : PyData} (h1 : kn q) (h2 : badDp q = true) : TC K C 0 (effD C t l) (.int (10 ^ Int.toNat 30)) q "depth" := TC.d0 (N := 10 ^ 30) (by decide) h1 h2
theorem bt_frz {b : Bool} (h : b = true) : frz (.py (.bool b)) = .py (.bool true) := by rw [h]; rfl
theorem ne_b {p : PyData} {s : String} (kc : KitC c.K C) (h : tyN (.py p) = some s) (hs : s ∈ ["NoneType", "bool", "int", "str", "list", "tuple"]) : NotEff c.K C (.py p) :=
  ⟨rfl, rfl, .type s, fun c' e A H v x => ty_of x h, (kc.no s hs).1⟩
theorem ne_l (kc : KitC c.K C) : NotEff c.K C .lsx := ⟨rfl, rfl, .type "list", fun c' e => ty2_l, (kc.no "list" (by decide)).1⟩
theorem ne_i {CP : Addr} {fs : List (Str × PyData)} (kp : KitC c.K CP) (h : PySem.W.kitOne c.K (.ref CP) (.ref C) = some false) : NotEff c.K C (.ins CP fs) := ⟨rfl, rfl, .ref CP, fun c' e => ty2_i (e ▸ kp), h⟩
theorem ne_d (h : PySem.W.kitOne c.K (.type "dict") (.ref C) = some false) : NotEff c.K C (.py (.dict [])) := ⟨rfl, rfl, .type "dict", fun c' e A H v x => ty_of x rfl, h⟩
end
section
variable {P : Program} {w : World} {K : PySem.W.Frag} {mg : Str → Option Value} {base : Heap} {f C CP CT : Addr} {fd : FuncData}
abbrev sp__law_right (K : PySem.W.Frag) (C : Addr) : Sp := SpX (ι := Int × List Src) K (fun x => [.kln, effD C x.1 x.2]) (fun x n => okE x.1 x.2 ∧ n < 2 ^ 98) fun x n d m => d = .py (.bool true) ∧ m ≤ n + 300
theorem ln__law_right (x : Int × List Src) : [D.kln, effD C x.1 x.2].length = 2 := rfl
theorem nm__law_right (x : Int × List Src) : [D.kln, effD C x.1 x.2].all D.nm = true := rfl
theorem sc__law_right : FnScope ["kiln", "one", "good", "bad", "odd", "wrong", "told"] ["kiln", "one"] (defScope (top 91)) := ⟨rfl, rfl, rfl, by decide +kernel, rfl, by decide +kernel, by decide +kernel⟩
theorem ok__law_right (F : FnP K "_law_right" "_law_right" (top 91) f fd) (S__law_scoop : Std P w K mg base 1 "_law_scoop" ["kiln", "bound"] (sp__law_scoop K)) (S__law_told : StdG P w K mg base 9 "_law_told" ["door", "one", "two", "three"] (sp__law_told K C)) (kc : KitC K C) (a1 : NoAttr K C "kept_taken") (a2 : NoAttr K C "kept_left") (gE : mg "Effect" = some (.ref C)) (P_taken : StdP P w K mg base 1 C "taken" (sp_Effect_taken K C)) (P_left : StdP P w K mg base 1 C "left" (sp_Effect_left K C)) (P_growth : StdP P w K mg base 1 C "growth" (sp_Effect_growth K C)) (kp : KitC K CP) (gP : mg "Program" = some (.ref CP)) (I_Program : StdI P w K mg base 16 CP (si_Program___init__ K CP)) (nDC : PySem.W.kitOne K (.type "dict") (.ref C) = some false) (nPC : PySem.W.kitOne K (.ref CP) (.ref C) = some false) : FnG P w K mg base 18 f fd ["kiln", "one"] (sp__law_right K C) := by
  refine fng_of F sc__law_right (sx_len ln__law_right) (fun cdv A outer s H vs Q E hr gd h => ?_)
  have nd := sc__law_right.nd
  refine ⟨_, PSs.nox (pss_cons (ps_set (i := 2) nd rfl (Or.inl rfl) (pe_tup (pa_cons (pe_str) (pa_cons (pe_std S__law_scoop (hr.mono (by decide)) rfl (pa_cons (pv 0) (pa_cons (pe_int) (pa_nil)))) (pa_nil)))))
 (pss_cons (ps_for PassesOwn.never rfl (ilistK (K := K) rfl (pe_lst (pa_cons (pe_non) (pa_cons (pe_int) (pa_cons (pe_bl) (pa_cons (pe_str) (pa_cons (pe_tup (pa_cons (pe_propS P_taken kc.cl (hr.mono (by decide)) (pv 1) rfl) (pa_cons (pe_propS P_left kc.cl (hr.mono (by decide)) (pv 1) rfl) (pa_nil)))) (pa_cons (pe_lst (pa_cons (pv 1) (pa_nil))) (pa_cons (pe_makeS I_Program gP hr rfl (pa_cons (pe_str) (pa_nil))) (pa_cons (pe_dnewK) (pa_cons (pe_tup (pa_nil)) (pa_cons (pe_str) (pa_nil))))))))))))) (pg_name (i := 3) nd rfl (Or.inl rfl)) (pss_cons (ps_setO (i := 6) nd rfl (Or.inl rfl) (pe_lst (pa_cons (pe_stdG S__law_told (hr.mono (by decide)) gd rfl (pa_cons (pe_int) (pa_cons (pv 3) (pa_cons (pe_int) (pa_cons (pe_int) (pa_nil)))))) (pa_cons (pe_stdG S__law_told (hr.mono (by decide)) gd rfl (pa_cons (pe_int) (pa_cons (pv 3) (pa_cons (pe_non) (pa_cons (pe_non) (pa_nil)))))) (pa_cons (pe_stdG S__law_told (hr.mono (by decide)) gd rfl (pa_cons (pe_int) (pa_cons (pv 3) (pa_cons (pe_int) (pa_cons (pv 2) (pa_nil)))))) (pa_nil))))))
 (pss_one (ps_if (pt_cmpR (neK (K := K) rfl (room64 hr)) (pe_op (addK (K := K) rfl) (pv 6) (pe_lst (pa_cons (pe_stdG S__law_told (hr.mono (by decide)) gd rfl (pa_cons (pe_int) (pa_cons (pv 3) (pa_cons (pe_non) (pa_cons (pe_non) (pa_nil)))))) (pa_cons (pe_stdG S__law_told (hr.mono (by decide)) gd rfl (pa_cons (pe_int) (pa_cons (pv 3) (pa_cons (pe_non) (pa_cons (pe_non) (pa_nil)))))) (pa_nil))))) (pe_op opMUL (pe_lst (pa_cons (pe_str) (pa_nil))) (pe_int)) (nomark _)) (pss_one (ps_ret (pe_bl))) (pss_nil)))))
 (pss_cons (ps_set (i := 4) nd rfl (Or.inl rfl) (pe_lst (pa_cons (pe_non) (pa_cons (pe_bl) (pa_cons (pe_bl) (pa_cons (pe_str) (pa_cons (pe_tup (pa_cons (pe_int) (pa_nil))) (pa_cons (pe_lst (pa_cons (pe_int) (pa_nil))) (pa_cons (pe_dnewK) (pa_cons (pe_un un_neg (pe_int)) (pa_cons (pe_op op_sub (pe_un un_neg (pe_int)) (pe_std S__law_scoop (hr.mono (by decide)) rfl (pa_cons (pv 0) (pa_cons (pe_int) (pa_nil))))) (pa_cons (pe_op op_sub (pe_int) (pe_op opPOW (pe_int) (pe_int))) (pa_nil)))))))))))))
 (pss_cons (ps_for PassesOwn.never rfl (ilistK (K := K) rfl (pe_op (addK (K := K) rfl) (pv 4) (pe_lst (pa_cons (pe_op (addK (K := K) rfl) (pe_op opPOW (pe_int) (pe_int)) (pe_int)) (pa_cons (pe_op opPOW (pe_int) (pe_int)) (pa_cons (pe_op (addK (K := K) rfl) (pe_op (addK (K := K) rfl) (pe_op opPOW (pe_int) (pe_int)) (pe_int)) (pe_std S__law_scoop (hr.mono (by decide)) rfl (pa_cons (pv 0) (pa_cons (pe_int) (pa_nil))))) (pa_nil))))))) (pg_name (i := 3) nd rfl (Or.inl rfl)) (pss_one (ps_if (pt_cmpR (neK (K := K) rfl (room64 hr)) (pe_lst (pa_cons (pe_stdG S__law_told (hr.mono (by decide)) gd rfl (pa_cons (pe_int) (pa_cons (pv 1) (pa_cons (pv 3) (pa_cons (pe_int) (pa_nil)))))) (pa_cons (pe_stdG S__law_told (hr.mono (by decide)) gd rfl (pa_cons (pe_int) (pa_cons (pv 1) (pa_cons (pv 3) (pa_cons (pe_non) (pa_nil)))))) (pa_cons (pe_stdG S__law_told (hr.mono (by decide)) gd rfl (pa_cons (pe_int) (pa_cons (pv 1) (pa_cons (pv 3) (pa_cons (pe_un un_neg (pe_int)) (pa_nil)))))) (pa_nil))))) (pe_op opMUL (pe_lst (pa_cons (pe_str) (pa_nil))) (pe_int)) (nomark _)) (pss_one (ps_ret (pe_bl))) (pss_nil))))
 (pss_cons (ps_for PassesOwn.never rfl (ilistK (K := K) rfl (pv 4)) (pg_name (i := 3) nd rfl (Or.inl rfl)) (pss_cons (ps_setO (i := 6) nd rfl (Or.inl rfl) (pe_lst (pa_cons (pe_stdG S__law_told (hr.mono (by decide)) gd rfl (pa_cons (pe_int) (pa_cons (pv 1) (pa_cons (pe_int) (pa_cons (pv 3) (pa_nil)))))) (pa_cons (pe_stdG S__law_told (hr.mono (by decide)) gd rfl (pa_cons (pe_int) (pa_cons (pv 1) (pa_cons (pe_op opPOW (pe_int) (pe_int)) (pa_cons (pv 3) (pa_nil)))))) (pa_cons (pe_stdG S__law_told (hr.mono (by decide)) gd rfl (pa_cons (pe_int) (pa_cons (pv 1) (pa_cons (pv 3) (pa_cons (pv 2) (pa_nil)))))) (pa_nil))))))
 (pss_one (ps_if (pt_cmpR (neK (K := K) rfl (room64 hr)) (pe_op (addK (K := K) rfl) (pv 6) (pe_lst (pa_cons (pe_stdG S__law_told (hr.mono (by decide)) gd rfl (pa_cons (pe_int) (pa_cons (pv 1) (pa_cons (pv 3) (pa_cons (pe_non) (pa_nil)))))) (pa_nil)))) (pe_op opMUL (pe_lst (pa_cons (pe_str) (pa_nil))) (pe_int)) (nomark _)) (pss_one (ps_ret (pe_bl))) (pss_nil)))))
 (pss_cons (ps_set (i := 5) nd rfl (Or.inl rfl) (pe_lst (pa_cons (pe_non) (pa_cons (pe_int) (pa_cons (pe_str) (pa_cons (pe_tup (pa_cons (pe_str) (pa_nil))) (pa_cons (pe_tup (pa_cons (pe_str) (pa_cons (pe_int) (pa_cons (pe_int) (pa_nil))))) (pa_cons (pe_lst (pa_cons (pe_str) (pa_cons (pe_int) (pa_nil)))) (pa_cons (pe_tup (pa_cons (pe_str) (pa_cons (pe_non) (pa_nil)))) (pa_cons (pe_tup (pa_cons (pe_str) (pa_cons (pe_bl) (pa_nil)))) (pa_cons (pe_tup (pa_cons (pe_str) (pa_cons (pe_str) (pa_nil)))) (pa_cons (pe_tup (pa_cons (pe_str) (pa_cons (pe_un un_neg (pe_int)) (pa_nil)))) (pa_cons (pe_tup (pa_nil)) (pa_nil))))))))))))))
 (pss_cons (ps_set (i := 5) nd rfl (Or.inl rfl) (pe_op (addK (K := K) rfl) (pv 5) (pe_lst (pa_cons (pe_tup (pa_cons (pe_str) (pa_cons (pe_non) (pa_nil)))) (pa_cons (pe_tup (pa_cons (pe_str) (pa_cons (pe_bl) (pa_nil)))) (pa_cons (pe_tup (pa_cons (pe_str) (pa_cons (pe_str) (pa_nil)))) (pa_cons (pe_tup (pa_cons (pe_str) (pa_cons (pe_op (addK (K := K) rfl) (pe_op opPOW (pe_int) (pe_int)) (pe_int)) (pa_nil)))) (pa_cons (pe_tup (pa_cons (pe_str) (pa_cons (pe_op op_sub (pe_op op_sub (pe_int) (pe_op opPOW (pe_int) (pe_int))) (pe_int)) (pa_nil)))) (pa_cons (pe_dnewK) (pa_nil))))))))))
 (pss_cons (ps_for PassesOwn.never rfl (ilistK (K := K) rfl (pe_op (addK (K := K) rfl) (pv 5) (pe_lst (pa_cons (pe_tup (pa_cons (pe_str) (pa_cons (pe_int) (pa_nil)))) (pa_cons (pe_tup (pa_cons (pe_str) (pa_cons (pe_int) (pa_nil)))) (pa_cons (pe_tup (pa_cons (pe_int) (pa_cons (pe_int) (pa_nil)))) (pa_cons (pe_tup (pa_cons (pe_non) (pa_cons (pe_int) (pa_nil)))) (pa_cons (pe_tup (pa_cons (pe_tup (pa_cons (pe_str) (pa_cons (pe_int) (pa_nil)))) (pa_nil))) (pa_cons (pe_tup (pa_cons (pe_str) (pa_cons (pe_lst (pa_cons (pe_int) (pa_nil))) (pa_nil)))) (pa_cons (pe_tup (pa_cons (pe_str) (pa_cons (pe_int) (pa_nil)))) (pa_cons (pe_tup (pa_cons (pe_str) (pa_cons (pe_int) (pa_nil)))) (pa_nil)))))))))))) (pg_name (i := 3) nd rfl (Or.inl rfl)) (pss_one (ps_if (pt_cmpR (neK (K := K) rfl (room64 hr)) (pe_lst (pa_cons (pe_stdG S__law_told (hr.mono (by decide)) gd rfl (pa_cons (pe_int) (pa_cons (pv 1) (pa_cons (pe_int) (pa_cons (pv 3) (pa_nil)))))) (pa_cons (pe_stdG S__law_told (hr.mono (by decide)) gd rfl (pa_cons (pe_int) (pa_cons (pv 1) (pa_cons (pe_op opPOW (pe_int) (pe_int)) (pa_cons (pv 3) (pa_nil)))))) (pa_nil)))) (pe_op opMUL (pe_lst (pa_cons (pe_str) (pa_nil))) (pe_int)) (nomark _)) (pss_one (ps_ret (pe_bl))) (pss_nil))))
 (pss_cons (ps_setO (i := 6) nd rfl (Or.inl rfl) (pe_lst (pa_cons (pe_stdG S__law_told (hr.mono (by decide)) gd rfl (pa_cons (pe_int) (pa_cons (pv 1) (pa_cons (pe_op opPOW (pe_int) (pe_int)) (pa_cons (pe_op opPOW (pe_int) (pe_int)) (pa_nil)))))) (pa_cons (pe_stdG S__law_told (hr.mono (by decide)) gd rfl (pa_cons (pe_int) (pa_cons (pv 1) (pa_cons (pe_int) (pa_cons (pe_int) (pa_nil)))))) (pa_nil)))))
 (pss_cons (ps_expr (pe_bm PySem.F.plainAttrs_list PySem.F.slot_list_append PySem.F.type_list_append mt_append (pv 6) (pa_cons (pe_stdG S__law_told (hr.mono (by decide)) gd rfl (pa_cons (pe_int) (pa_cons (pv 1) (pa_cons (pe_op opPOW (pe_int) (pe_int)) (pa_cons (pe_tup (pa_cons (pe_str) (pa_cons (pe_op opPOW (pe_int) (pe_int)) (pa_nil)))) (pa_nil)))))) (pa_nil))))
 (pss_cons (ps_setO (i := 6) nd rfl (Or.inl rfl) (pe_op (addK (K := K) rfl) (pv 6) (pe_lst (pa_cons (pe_stdG S__law_told (hr.mono (by decide)) gd rfl (pa_cons (pe_int) (pa_cons (pv 1) (pa_cons (pe_int) (pa_cons (pe_tup (pa_cons (pe_str) (pa_cons (pe_op opPOW (pe_int) (pe_int)) (pa_nil)))) (pa_nil)))))) (pa_cons (pe_stdG S__law_told (hr.mono (by decide)) gd rfl (pa_cons (pe_int) (pa_cons (pv 1) (pa_cons (pe_int) (pa_cons (pe_tup (pa_cons (pe_str) (pa_cons (pe_op op_sub (pe_int) (pe_op opPOW (pe_int) (pe_int))) (pa_nil)))) (pa_nil)))))) (pa_nil))))))
 (pss_one (ps_ret (pe_cmpR (eqK (K := K) rfl (room64 hr)) (pe_op (addK (K := K) rfl) (pv 6) (pe_lst (pa_cons (pe_stdG S__law_told (hr.mono (by decide)) gd rfl (pa_cons (pe_int) (pa_cons (pv 1) (pa_cons (pe_non) (pa_cons (pe_non) (pa_nil)))))) (pa_nil)))) (pe_op (addK (K := K) rfl) (pe_op opMUL (pe_lst (pa_cons (pe_str) (pa_nil))) (pe_int)) (pe_lst (pa_cons (pe_ifExp (pt_cmpR (eqK (K := K) rfl (room64 hr)) (pe_propS P_growth kc.cl (hr.mono (by decide)) (pv 1) rfl) (pe_int) (nomark _)) (pe_str) (pe_str)) (pa_nil)))) (nomark _))))))))))))))), ?_⟩
  refine body_x nm__law_right ?_ vs H Q E h
  clear h hr gd
  intro c n x hK hp
  (subst hK)
  try clear S__law_scoop S__law_told gE P_taken P_left P_growth I_Program F
  obtain ⟨t, l⟩ := x
  obtain ⟨hE, hn⟩ : okE t l ∧ n < 2 ^ 98 := hp
  dsimp only
  walk_at "WJ"
  refine ws_seq ?_
  walk_at "WK"
  refine ⟨_, rfl, by decide, by decide, by (try dsimp only); omega, fun g0 g1 g2 => ?_⟩
  have x1 : ShX 5 1000 (.int 1) := shX_of (by decide +kernel)
  have x0 : ShX 5 1000 (.int 0) := shX_of (by decide +kernel)
  have xm : ShX 5 1000 (.int (-1)) := shX_of (by decide +kernel)
  have x30 : ShX 5 1000 (.int (10 ^ Int.toNat 30)) := shX_int (by decide +kernel)
  have x60 : ShX 5 1000 (.int (10 ^ Int.toNat 60)) := shX_int (by decide +kernel)
  have xN : ShX 5 1000 .none := shX_of (by decide +kernel)
  have hg : smS (.inp g0) := by show g0.natAbs < 10 ^ 70; omega
  walk_at "WJ"
  refine ws_seq (ws_mid (fun e1 => ∃ (s3 s4 s5 s6 : Slo) (m : Nat), m ≤ n + 1 ∧ e1 = ⟨[.val .kln, .val (effD C t l), .val (.py (.tuple [.str "in", .int g0])), s3, s4, s5, s6], m⟩) ?_ ?_)
  · refine ws_for [3, 6] (wi_lit rfl ?_)
    walk_at "WK"
    refine ⟨_, rfl, (t, l), rfl, trivial, ?_⟩
    rintro d m ⟨rfl, rfl⟩
    refine ⟨rfl, ?_⟩
    walk_at "WK"
    refine ⟨_, rfl, (t, l), rfl, trivial, ?_⟩
    rintro d m ⟨rfl, rfl⟩
    refine ⟨rfl, ?_⟩
    walk_at "WK"
    refine ⟨.dow .d .nil, by rw [dT]; rfl, dOk, ?_⟩
    walk_at "WK"
    refine ⟨fun i e1 => ∃ (s3 s4 s5 s6 : Slo) (m : Nat), m ≤ n + 1 ∧ e1 = ⟨[.val .kln, .val (effD C t l), .val (.py (.tuple [.str "in", .int g0])), s3, s4, s5, s6], m⟩, ⟨_, _, _, _, _, by omega, rfl⟩, ?_, ?_⟩
    · rintro i d e1 hd ⟨s3, s4, s5, s6, m, hm, rfl⟩
      have hN : NotEff c.K C d ∧ d.nm = true := by
        have z := List.mem_of_getElem? hd
        simp only [List.mem_cons, List.not_mem_nil, or_false] at z
        rcases z with rfl | rfl | rfl | rfl | rfl | rfl | rfl | rfl | rfl | rfl
        · exact ⟨ne_b kc rfl (by decide), rfl⟩
        · exact ⟨ne_b kc rfl (by decide), rfl⟩
        · exact ⟨ne_b kc rfl (by decide), rfl⟩
        · exact ⟨ne_b kc rfl (by decide), rfl⟩
        · exact ⟨ne_b kc rfl (by decide), rfl⟩
        · exact ⟨ne_l kc, rfl⟩
        · exact ⟨ne_i kp nPC, rfl⟩
        · exact ⟨ne_d nDC, rfl⟩
        · exact ⟨ne_b kc rfl (by decide), rfl⟩
        · exact ⟨ne_b kc rfl (by decide), rfl⟩
      obtain ⟨ne, hd2⟩ := hN
      refine wg_name ⟨hd2, ?_⟩ (Nat.le_of_ble_eq_true rfl) (by decide)
      walk_at "WK"
      refine ⟨by rw [List.all_cons, List.all_cons, ne.ok]; rfl, (0, ⟨d, hd2⟩, .int 1, .int 1, "effect"), by rw [List.map_cons, List.map_cons, ne.ar]; rfl, ⟨x1, x1, .e0 ne⟩, ?_⟩
      rintro d2 m2 ⟨rfl, rfl⟩
      refine ⟨rfl, ?_⟩
      dsimp only
      walk_at "WK"
      refine ⟨by rw [List.all_cons, List.all_cons, ne.ok]; rfl, (0, ⟨d, hd2⟩, .none, .none, "effect"), by rw [List.map_cons, List.map_cons, ne.ar]; rfl, ⟨xN, xN, .e0 ne⟩, ?_⟩
      rintro d2 m2 ⟨rfl, rfl⟩
      refine ⟨rfl, ?_⟩
      dsimp only
      walk_at "WK"
      refine ⟨by rw [List.all_cons, List.all_cons, ne.ok]; rfl, (1, ⟨d, hd2⟩, .int 1, (Src.inp g0).py, "effect"), by rw [List.map_cons, List.map_cons, ne.ar]; rfl, ⟨x1, (shX_src hg), .e1 ne⟩, ?_⟩
      rintro d2 m2 ⟨rfl, rfl⟩
      refine ⟨rfl, ?_⟩
      dsimp only
      walk_at "WK"
      refine ⟨by rw [List.all_cons, List.all_cons, ne.ok]; rfl, (1, ⟨d, hd2⟩, .none, .none, "effect"), by rw [List.map_cons, List.map_cons, ne.ar]; rfl, ⟨xN, xN, .e1 ne⟩, ?_⟩
      rintro d2 m2 ⟨rfl, rfl⟩
      refine ⟨rfl, ?_⟩
      dsimp only
      walk_at "WK"
      refine ⟨by rw [List.all_cons, List.all_cons, ne.ok]; rfl, (2, ⟨d, hd2⟩, .none, .none, "effect"), by rw [List.map_cons, List.map_cons, ne.ar]; rfl, ⟨xN, xN, .e2 ne⟩, ?_⟩
      rintro d2 m2 ⟨rfl, rfl⟩
      refine ⟨rfl, ?_⟩
      dsimp only
      walk_at "WK"
      refine ⟨_, rfl, by show 5 ≤ sizeLine; decide, ?_⟩
      walk_at "WK"
      refine ⟨_, rfl, wp_cI ⟨_, rfl, by decide, by decide, by show 5 ≤ sizeLine; decide, rw_neL rfl (by decide +kernel) (by decide +kernel) (by decide +kernel) ?_⟩⟩
      walk_at "WK"
      refine ⟨(fun z => nomatch z), fun _ => ?_⟩
      walk_at "WK"
      exact ⟨_, _, _, _, _, hm, rfl⟩
    · rintro e1 ⟨s3, s4, s5, s6, m, hm, rfl⟩
      exact ⟨_, _, _, _, _, hm, rfl⟩
  rintro e1 ⟨s3, s4, s5, s6, m, hm, rfl⟩
  walk_at "WJ"
  refine ws_seq ?_
  walk_at "WK"
  refine ⟨_, rfl, by decide, by decide, by omega, fun r0 r1 r2 => ?_⟩
  walk_at "WK"
  refine ws_mid (fun e1 => ∃ (s3 s5 s6 : Slo) (m : Nat), m ≤ n + 3 ∧ e1 = ⟨[.val .kln, .val (effD C t l), .val (.py (.tuple [.str "in", .int g0])), s3, .val (.py (.list (oddL r0))), s5, s6], m⟩) ?_ ?_
  · refine ws_for [3] (wi_list rfl ?_)
    walk_at "WK"
    refine ⟨_, rfl, by decide, by decide, by omega, fun q0 q1 q2 => ?_⟩
    walk_at "WK"
    refine ⟨fun i e1 => ∃ (s3 s5 s6 : Slo), e1 = ⟨[.val .kln, .val (effD C t l), .val (.py (.tuple [.str "in", .int g0])), s3, .val (.py (.list (oddL r0))), s5, s6], m + 1 + 1⟩, ⟨_, _, _, rfl⟩, ?_, ?_⟩
    · rintro i d e1 hd ⟨s3, s5, s6, rfl⟩
      obtain ⟨p, hp, rfl⟩ : ∃ p ∈ oddL r0 ++ badT q0, d = .py p := by
        have z := List.mem_of_getElem? (show ((oddL r0 ++ badT q0).map D.py)[i]? = some d from hd)
        obtain ⟨p, hp, e⟩ := List.mem_map.mp z
        exact ⟨p, hp, e.symm⟩
      obtain ⟨k1, k2, k3⟩ : kn p ∧ inRP p 0 (10 ^ 30) = false ∧ ShX 5 1000 p := by
        rcases List.mem_append.mp hp with h | h
        · exact ⟨(odd_bad r1 r2 p h).1, (odd_bad r1 r2 p h).2.1, (odd_bad r1 r2 p h).2.2.2⟩
        · exact badT_bad q1 q2 p h
      refine wg_name ⟨rfl, ?_⟩ (Nat.le_of_ble_eq_true rfl) (by decide)
      walk_at "WK"
      refine ⟨(0, ⟨effD C t l, rfl⟩, p, .int 0, "times"), rfl, ⟨k3, x0, .t0 k1 k2⟩, ?_⟩
      rintro d2 m2 ⟨rfl, rfl⟩
      refine ⟨rfl, ?_⟩
      dsimp only
      walk_at "WK"
      refine ⟨(0, ⟨effD C t l, rfl⟩, p, .none, "times"), rfl, ⟨k3, xN, .t0 k1 k2⟩, ?_⟩
      rintro d2 m2 ⟨rfl, rfl⟩
      refine ⟨rfl, ?_⟩
      dsimp only
      walk_at "WK"
      refine ⟨(0, ⟨effD C t l, rfl⟩, p, .int (-1), "times"), rfl, ⟨k3, xm, .t0 k1 k2⟩, ?_⟩
      rintro d2 m2 ⟨rfl, rfl⟩
      refine ⟨rfl, ?_⟩
      dsimp only
      walk_at "WK"
      refine ⟨_, rfl, wp_cI ⟨_, rfl, by decide, by decide, by show 3 ≤ sizeLine; decide, rw_neL rfl (by decide +kernel) (by decide +kernel) (by decide +kernel) ?_⟩⟩
      walk_at "WK"
      refine ⟨(fun z => nomatch z), fun _ => ?_⟩
      walk_at "WK"
      exact ⟨_, _, _, rfl⟩
    · rintro e1 ⟨s3, s5, s6, rfl⟩
      exact ⟨_, _, _, _, by omega, rfl⟩
  clear hm
  rintro e1 ⟨s3, s5, s6, m, hm, rfl⟩
  refine ws_seq ?_
  refine ws_mid (fun e1 => ∃ (s3 s5 s6 : Slo), e1 = ⟨[.val .kln, .val (effD C t l), .val (.py (.tuple [.str "in", .int g0])), s3, .val (.py (.list (oddL r0))), s5, s6], m⟩) ?_ ?_
  · refine ws_for [3, 6] (wi_list rfl ?_)
    walk_at "WK"
    refine ⟨fun i e1 => ∃ (s3 s5 s6 : Slo), e1 = ⟨[.val .kln, .val (effD C t l), .val (.py (.tuple [.str "in", .int g0])), s3, .val (.py (.list (oddL r0))), s5, s6], m⟩, ⟨_, _, _, rfl⟩, ?_, ?_⟩
    · rintro i d e1 hd ⟨s3, s5, s6, rfl⟩
      obtain ⟨p, hp, rfl⟩ : ∃ p ∈ oddL r0, d = .py p := by
        have z := List.mem_of_getElem? (show ((oddL r0).map D.py)[i]? = some d from hd)
        obtain ⟨p, hp, e⟩ := List.mem_map.mp z
        exact ⟨p, hp, e.symm⟩
      obtain ⟨k1, _, k2, k3⟩ := odd_bad r1 r2 p hp
      refine wg_name ⟨rfl, ?_⟩ (Nat.le_of_ble_eq_true rfl) (by decide)
      walk_at "WK"
      refine ⟨(0, ⟨effD C t l, rfl⟩, .int 0, p, "depth"), rfl, ⟨x0, k3, td0 k1 k2⟩, ?_⟩
      rintro d2 m2 ⟨rfl, rfl⟩
      refine ⟨rfl, ?_⟩
      dsimp only
      walk_at "WK"
      refine ⟨(0, ⟨effD C t l, rfl⟩, .int (10 ^ Int.toNat 30), p, "depth"), rfl, ⟨x30, k3, td30 k1 k2⟩, ?_⟩
      rintro d2 m2 ⟨rfl, rfl⟩
      refine ⟨rfl, ?_⟩
      dsimp only
      walk_at "WK"
      refine ⟨(1, ⟨effD C t l, rfl⟩, p, (Src.inp g0).py, "depth"), rfl, ⟨k3, (shX_src hg), .d1 k1 k2⟩, ?_⟩
      rintro d2 m2 ⟨rfl, rfl⟩
      refine ⟨rfl, ?_⟩
      dsimp only
      walk_at "WK"
      refine ⟨(1, ⟨effD C t l, rfl⟩, p, .none, "depth"), rfl, ⟨k3, xN, .d1 k1 k2⟩, ?_⟩
      rintro d2 m2 ⟨rfl, rfl⟩
      refine ⟨rfl, ?_⟩
      dsimp only
      walk_at "WK"
      refine ⟨_, rfl, by show 4 ≤ sizeLine; decide, ?_⟩
      walk_at "WK"
      refine ⟨_, rfl, wp_cI ⟨_, rfl, by decide, by decide, by show 4 ≤ sizeLine; decide, rw_neL rfl (by decide +kernel) (by decide +kernel) (by decide +kernel) ?_⟩⟩
      walk_at "WK"
      refine ⟨(fun z => nomatch z), fun _ => ?_⟩
      walk_at "WK"
      exact ⟨_, _, _, rfl⟩
    · rintro e1 ⟨s3, s5, s6, rfl⟩
      exact ⟨_, _, _, rfl⟩
  rintro e1 ⟨s3, s5, s6, rfl⟩
  walk_at "WJ"
  refine ws_seq ?_
  walk_at "WK"
  refine ws_mid (fun e1 => ∃ (s3 s4 s5 s6 : Slo), e1 = ⟨[.val .kln, .val (effD C t l), .val (.py (.tuple [.str "in", .int g0])), s3, s4, s5, s6], m⟩) ?_ ?_
  · refine ws_for [3] (wi_list rfl ?_)
    walk_at "WK"
    refine ⟨fun i e1 => ∃ (s3 s4 s5 s6 : Slo), e1 = ⟨[.val .kln, .val (effD C t l), .val (.py (.tuple [.str "in", .int g0])), s3, s4, s5, s6], m⟩, ⟨_, _, _, _, rfl⟩, ?_, ?_⟩
    · rintro i d e1 hd ⟨s3, s4, s5, s6, rfl⟩
      obtain ⟨p, hp, rfl⟩ : ∃ p ∈ wrongL, d = .py p := by
        have z := List.mem_of_getElem? (show (wrongL.map D.py)[i]? = some d from hd)
        obtain ⟨p, hp, e⟩ := List.mem_map.mp z
        exact ⟨p, hp, e.symm⟩
      obtain ⟨k1, k2, k3⟩ := wrong_bad p hp
      refine wg_name ⟨rfl, ?_⟩ (Nat.le_of_ble_eq_true rfl) (by decide)
      walk_at "WK"
      refine ⟨(1, ⟨effD C t l, rfl⟩, .int 0, p, "source"), rfl, ⟨x0, k3, .s1 (by decide) k1 k2⟩, ?_⟩
      rintro d2 m2 ⟨rfl, rfl⟩
      refine ⟨rfl, ?_⟩
      dsimp only
      walk_at "WK"
      refine ⟨(1, ⟨effD C t l, rfl⟩, .int (10 ^ Int.toNat 60), p, "source"), rfl, ⟨x60, k3, .s1 (by decide +kernel) k1 k2⟩, ?_⟩
      rintro d2 m2 ⟨rfl, rfl⟩
      refine ⟨rfl, ?_⟩
      dsimp only
      walk_at "WK"
      refine ⟨_, rfl, wp_cI ⟨_, rfl, by decide, by decide, by show 2 ≤ sizeLine; decide, rw_neL rfl (by decide +kernel) (by decide +kernel) (by decide +kernel) ?_⟩⟩
      walk_at "WK"
      refine ⟨(fun z => nomatch z), fun _ => ?_⟩
      walk_at "WK"
      exact ⟨_, _, _, _, rfl⟩
    · rintro e1 ⟨s3, s4, s5, s6, rfl⟩
      exact ⟨_, _, _, _, rfl⟩
  rintro e1 ⟨s3, s4, s5, s6, rfl⟩
  walk_at "WK"
  refine ⟨(0, ⟨effD C t l, rfl⟩, .int (10 ^ Int.toNat 30), .int (10 ^ Int.toNat 60), "fine"), rfl, ⟨x30, x60, tf30 hE (by decide +kernel) (by decide +kernel)⟩, ?_⟩
  rintro d2 m2 ⟨rfl, rfl⟩
  refine ⟨rfl, ?_⟩
  dsimp only
  walk_at "WK"
  refine ⟨(0, ⟨effD C t l, rfl⟩, .int 0, .int 0, "fine"), rfl, ⟨x0, x0, tf0 hE (by decide) (by decide +kernel)⟩, ?_⟩
  rintro d2 m2 ⟨rfl, rfl⟩
  refine ⟨rfl, ?_⟩
  dsimp only
  walk_at "WK"
  refine ⟨(1, ⟨effD C t l, rfl⟩, .int (10 ^ Int.toNat 60), (Src.inp (10 ^ Int.toNat 60)).py, "fine"), rfl, ⟨x60, (shX_src (s := .inp (10 ^ Int.toNat 60)) (show Int.natAbs (10 ^ Int.toNat 60) < 10 ^ 70 by decide +kernel)), TC.f1 (s := .inp (10 ^ Int.toNat 60)) hE (by decide +kernel) (by decide +kernel) (show (0 : Int) ≤ 10 ^ Int.toNat 60 by decide +kernel)⟩, ?_⟩
  rintro d2 m2 ⟨rfl, rfl⟩
  refine ⟨rfl, ?_⟩
  dsimp only
  walk_at "WK"
  refine ⟨_, rfl, by show 2 < sizeLine; decide, ?_⟩
  walk_at "WK"
  refine ⟨(1, ⟨effD C t l, rfl⟩, .int 0, (Src.lit (10 ^ Int.toNat 30)).py, "fine"), rfl, ⟨x0, (shX_src (s := .lit (10 ^ Int.toNat 30)) (show Int.natAbs (10 ^ Int.toNat 30) < 10 ^ 70 by decide +kernel)), .f1 (s := .lit (10 ^ Int.toNat 30)) hE (by decide) (by decide +kernel) (show -(10 ^ 30) ≤ (10 ^ Int.toNat 30 : Int) ∧ (10 ^ Int.toNat 30 : Int) ≤ 10 ^ 30 by decide +kernel)⟩, ?_⟩
  rintro d2 m2 ⟨rfl, rfl⟩
  refine ⟨rfl, ?_⟩
  dsimp only
  walk_at "WK"
  refine ⟨(1, ⟨effD C t l, rfl⟩, .int 0, (Src.lit (0 - 10 ^ Int.toNat 30)).py, "fine"), rfl, ⟨x0, (shX_src (s := .lit (0 - 10 ^ Int.toNat 30)) (show Int.natAbs (0 - 10 ^ Int.toNat 30) < 10 ^ 70 by decide +kernel)), .f1 (s := .lit (0 - 10 ^ Int.toNat 30)) hE (by decide) (by decide +kernel) (show -(10 ^ 30) ≤ (0 - 10 ^ Int.toNat 30 : Int) ∧ (0 - 10 ^ Int.toNat 30 : Int) ≤ 10 ^ 30 by decide +kernel)⟩, ?_⟩
  rintro d2 m2 ⟨rfl, rfl⟩
  refine ⟨rfl, ?_⟩
  dsimp only
  walk_at "WK"
  refine ⟨_, rfl, by show 5 ≤ sizeLine; decide, ?_⟩
  walk_at "WK"
  by_cases hG : (l.length : Int) = t
  · skip
    refine ⟨(2, ⟨effD C t l, rfl⟩, .none, .none, "fine"), rfl, ⟨xN, xN, .f2 hE hG⟩, ?_⟩
    rintro d2 m2 ⟨rfl, rfl⟩
    refine ⟨rfl, ?_⟩
    dsimp only
    walk_at "WK"
    refine ⟨_, rfl, by show 6 ≤ sizeLine; decide, ?_⟩
    walk_at "WK"
    refine ⟨_, rfl, wp_cI ⟨_, rfl, by decide, by decide, by show 5 ≤ sizeLine; decide, ?_⟩⟩
    walk_at "WK"
    refine ⟨_, rfl, (t, l), rfl, trivial, ?_⟩
    rintro d3 m3 ⟨rfl, rfl⟩
    refine ⟨rfl, ?_⟩
    dsimp only
    walk_at "WK"
    rw [decide_eq_true (show (l.length : Int) - t = 0 by omega)]
    refine ⟨fun _ => ?_, (fun z => nomatch z)⟩
    walk_at "WK"
    exact ⟨by decide +kernel, by decide +kernel, bt_frz (by decide +kernel), by omega⟩
  · skip
    refine ⟨(2, ⟨effD C t l, rfl⟩, .none, .none, "balanced"), rfl, ⟨xN, xN, .b2 hE hG⟩, ?_⟩
    rintro d2 m2 ⟨rfl, rfl⟩
    refine ⟨rfl, ?_⟩
    dsimp only
    walk_at "WK"
    refine ⟨_, rfl, by show 6 ≤ sizeLine; decide, ?_⟩
    walk_at "WK"
    refine ⟨_, rfl, wp_cI ⟨_, rfl, by decide, by decide, by show 5 ≤ sizeLine; decide, ?_⟩⟩
    walk_at "WK"
    refine ⟨_, rfl, (t, l), rfl, trivial, ?_⟩
    rintro d3 m3 ⟨rfl, rfl⟩
    refine ⟨rfl, ?_⟩
    dsimp only
    walk_at "WK"
    rw [decide_eq_false (show ¬ (l.length : Int) - t = 0 by omega)]
    refine ⟨(fun z => nomatch z), fun _ => ?_⟩
    walk_at "WK"
    exact ⟨by decide +kernel, by decide +kernel, bt_frz (by decide +kernel), by omega⟩
end
end Wx

/-! ### part Ks -/
set_option Elab.async false
set_option linter.all false
set_option maxRecDepth 100000
set_option maxHeartbeats 1000000
set_option autoImplicit false
/-! law. -/
namespace Wx
open PySem L2

section
variable {P : Program} {w : World} {K : PySem.W.Frag} {mg : Str → Option Value} {base : Heap} {f C CP CT : Addr} {fd : FuncData}
abbrev sp_law (K : PySem.W.Frag) : Sp := fun vs H Q _ => ∃ a ns, vs = [.ref a] ∧ ns.length ≤ 63 ∧ Da K (fun _ => False) H (.ref a) (.list (List.map PyData.int ns)) ∧ ∀ H', Q (.bl true) H'
theorem body_l {N : List Str} {t : TS} (rd : ∀ (c : Cy) (ns : List Int), c.K = K → c.k = none → ns.length ≤ 63 → Ws c t ⟨Slo.of [.py (.list (ns.map PyData.int))] ++ List.replicate (N.length - [D.py (.list (ns.map PyData.int))].length) .emp, 0⟩ ⟨fun _ => False, fun d _ => d = .py (.bool true), fun _ => False, fun _ => False⟩)
    (vs : List V) (H : Hp) (Q : VK) (E : XK) (h : sp_law K vs H Q E) : t { nx := fun _ H' => Q .non H', rt := Q } (L2.start N vs) H := by
  obtain ⟨a, ns, rfl, hl, hd, hQ⟩ := h
  have g : Good ⟨K, none, fun _ => False, fun a z => nomatch z⟩ 0 H := ⟨fun a z => z.elim, fun a z => nomatch z⟩
  have o := start_ok (c := ⟨K, none, fun _ => False, fun a z => nomatch z⟩) (N := N) (ds := [.py (.list (ns.map PyData.int))]) g (vs := [.ref a]) ⟨hd, True.intro⟩ rfl
  refine (rd ⟨K, none, fun _ => False, fun a z => nomatch z⟩ ns rfl rfl hl).run _ _ H o _ (fun _ _ _ _ z _ _ _ => z.elim) (fun v H' d n q kp g x => ?_) (fun _ _ _ _ z _ _ _ => z.elim) (fun _ _ _ _ z _ _ _ => z.elim)
  subst q
  cases Da.bl_eq x
  exact hQ H'
theorem noK_app {s t : List Slo} (hs : noK s = true) (ht : noK t = true) : noK (s ++ t) = true := by
  unfold noK at *
  rw [List.all_append, hs, ht]
  rfl
theorem sc_law : FnScope ["script", "k", "kiln", "most", "pair"] ["script"] (defScope (top 92)) := ⟨rfl, rfl, rfl, by decide +kernel, rfl, by decide +kernel, by decide +kernel⟩
theorem ok_law (F : FnP K "law" "law" (top 92) f fd) (g_range : mg "range" = none) (g_max : mg "max" = none) (S__law_kiln : Std P w K mg base 1 "_law_kiln" ["script", "k"] (spKiln K)) (g_min : mg "min" = none) (S__law_shaped : Std P w K mg base 3 "_law_shaped" ["kiln", "most"] (sp__law_shaped K)) (g_len : mg "len" = none) (S__law_right : StdG P w K mg base 18 "_law_right" ["kiln", "one"] (sp__law_right K C)) (S__law_told : StdG P w K mg base 9 "_law_told" ["door", "one", "two", "three"] (sp__law_told K C)) (kc : KitC K C) (a1 : NoAttr K C "kept_taken") (a2 : NoAttr K C "kept_left") (gE : mg "Effect" = some (.ref C)) (I_Effect : StdI P w K mg base 5 C (si_Effect___init__ K C)) : FnG P w K mg base 19 f fd ["script"] (sp_law K) := by
  refine fng_of F sc_law (fun vs H Q E h => by obtain ⟨a, ns, rfl, _⟩ := h; rfl) (fun cdv A outer s H vs Q E hr gd h => ?_)
  have nd := sc_law.nd
  refine ⟨_, PSs.nox (pss_cons (ps_for PassesOwn.never rfl (pi_range1 rfl g_range (pa_cons (pe_callB (callMAX2 rfl) rfl g_max bt_max (pa_cons (pe_int) (pa_cons (pe_callB (callMIN2 rfl) rfl g_min bt_min (pa_cons (pe_int) (pa_cons (pe_callB (lenK (K := K) rfl) rfl g_len PySem.boot_len (pa_cons (pv 0) (pa_nil))) (pa_nil)))) (pa_nil)))) (pa_nil))) (pg_name (i := 1) nd rfl (Or.inl rfl)) (pss_cons (ps_set (i := 2) nd rfl (Or.inl rfl) (pe_std S__law_kiln (hr.mono (by decide)) rfl (pa_cons (pv 0) (pa_cons (pv 1) (pa_nil)))))
 (pss_one (ps_for PassesOwn.never rfl (ilistK (K := K) rfl (pe_lst (pa_cons (pe_int) (pa_cons (pe_int) (pa_nil))))) (pg_name (i := 3) nd rfl (Or.inl rfl)) (pss_cons (ps_set (i := 4) nd rfl (Or.inl rfl) (pe_std S__law_shaped (hr.mono (by decide)) rfl (pa_cons (pv 2) (pa_cons (pv 3) (pa_nil)))))
 (pss_one (ps_if (pt_not (truK (K := K) rfl (pe_stdG S__law_right hr gd rfl (pa_cons (pv 2) (pa_cons (pe_makeS I_Effect gE (hr.mono (by decide)) rfl (pa_cons (pe_ix (ixK (K := K) rfl) (pv 4) (pe_int) (fun _ _ => rfl)) (pa_cons (pe_ix (ixK (K := K) rfl) (pv 4) (pe_int) (fun _ _ => rfl)) (pa_nil)))) (pa_nil)))) (by intro _; rfl))) (pss_one (ps_ret (pe_bl))) (pss_nil))))))))
 (pss_one (ps_ret (pe_cmpR (eqK (K := K) rfl (room64 hr)) (pe_lst (pa_cons (pe_stdG S__law_told (hr.mono (by decide)) gd rfl (pa_cons (pe_int) (pa_cons (pe_makeS I_Effect gE (hr.mono (by decide)) rfl (pa_cons (pe_int) (pa_cons (pe_tup (pa_nil)) (pa_nil)))) (pa_cons (pe_int) (pa_cons (pe_int) (pa_nil)))))) (pa_cons (pe_stdG S__law_told (hr.mono (by decide)) gd rfl (pa_cons (pe_int) (pa_cons (pe_makeS I_Effect gE (hr.mono (by decide)) rfl (pa_cons (pe_int) (pa_cons (pe_tup (pa_nil)) (pa_nil)))) (pa_cons (pe_int) (pa_cons (pe_int) (pa_nil)))))) (pa_nil)))) (pe_lst (pa_cons (pe_str) (pa_cons (pe_str) (pa_nil)))) (nomark _))))), ?_⟩
  refine body_l ?_ vs H Q E h
  clear h hr gd
  intro c ns hK hk hl
  (subst hK)
  try clear g_range g_max S__law_kiln g_min S__law_shaped g_len S__law_right S__law_told gE I_Effect F
  walk_at "WK"
  refine ws_mid (fun e1 => ∃ s1 s3 s4, noK [s3, s4] = true ∧ e1 = ⟨[.val (.py (.list (ns.map PyData.int))), s1, .emp, s3, s4], 0⟩) ?_ ?_
  · refine ws_for [1] (wi_rng1 ?_)
    walk_at "WK"
    rw [List.length_map]
    generalize hz : (if (if (ns.length : Int) < 5 then (ns.length : Int) else 5) > 1 then (if (ns.length : Int) < 5 then (ns.length : Int) else 5) else 1) = z
    have hz1 : 0 ≤ z ∧ z ≤ 5 := by rw [← hz]; split <;> split at * <;> omega
    refine ⟨by omega, by omega, fun i e1 => ∃ s1 s3 s4, noK [s3, s4] = true ∧ e1 = ⟨[.val (.py (.list (ns.map PyData.int))), s1, .emp, s3, s4], 0⟩, ⟨_, _, _, rfl, rfl⟩, ?_, fun e1 h => h⟩
    rintro i d e1 hd ⟨s1, s3, s4, hno, rfl⟩
    obtain ⟨hi, rfl⟩ := seqI_of hd
    refine wg_name ⟨rfl, ?_⟩ (Nat.le_of_ble_eq_true rfl) (by decide)
    have nok : ∀ {s3 s4 : Slo}, noK [s3, s4] = true → noK [.val (.py (.list (ns.map PyData.int))), .val (.py (.int (0 + (i : Int) * 1))), .emp, s3, s4] = true := fun {s3 s4} h =>
      noK_app (s := [.val (.py (.list (ns.map PyData.int))), .val (.py (.int (0 + (i : Int) * 1))), .emp]) (t := [s3, s4]) rfl h
    refine ws_kln (is := 0) (ik := 1) (i := 2) (ns := ns) (k := 0 + (i : Int) * 1) rfl hk rfl rfl (by omega) (by omega) (Nat.le_of_ble_eq_true rfl) (nok hno) fun c' hK' => ?_
    rw [← hK'] at *
    refine ws_for [3, 4] (wi_list rfl ?_)
    walk_at "WK"
    refine ⟨fun q e1 => ∃ s3 s4 n', noK [s3, s4] = true ∧ n' ≤ 5000 * q ∧ q ≤ 2 ∧ e1 = ⟨[.val (.py (.list (ns.map PyData.int))), .val (.py (.int (0 + (i : Int) * 1))), .val .kln, s3, s4], n'⟩, ⟨_, _, _, hno, Nat.le_refl _, by decide, rfl⟩, ?_, ?_⟩
    · rintro q d e1 hd ⟨s3, s4, n', hno, hn', hq, rfl⟩
      have hq3 : q < 2 := (List.getElem?_eq_some_iff.mp hd).1
      obtain ⟨b, rfl, hb0, hb1⟩ : ∃ b : Int, d = .py (.int b) ∧ 4 ≤ b ∧ b ≤ 100 := by
        have hm := List.mem_of_getElem? hd
        simp only [List.map_cons, List.map_nil, List.mem_cons, List.not_mem_nil, or_false] at hm
        rcases hm with rfl | rfl
        · exact ⟨4, rfl, by decide, by decide⟩
        · exact ⟨30, rfl, by decide, by decide⟩
      refine wg_name ⟨rfl, ?_⟩ (Nat.le_of_ble_eq_true rfl) (by decide)
      walk_at "WK"
      refine ⟨b, rfl, ⟨hb0, hb1, by (try dsimp only); omega⟩, ?_⟩
      rintro d m2 ⟨t, l, rfl, hE, hc, hm2⟩
      have hm2 : m2 ≤ n' + 1010 := hm2
      refine ⟨rfl, ?_⟩
      walk_at "WK"
      refine ⟨_, rfl, ?_⟩
      walk_at "WK"
      refine ⟨_, rfl, ?_⟩
      walk_at "WK"
      refine ⟨(t, l), rfl, hE, ?_⟩
      dsimp only
      rw [hc]
      walk_at "WK"
      refine ⟨(t, l), rfl, ⟨hE, by (try dsimp only); omega⟩, ?_⟩
      rintro d m3 ⟨rfl, hm3⟩
      refine ⟨rfl, ?_⟩
      walk_at "WK"
      refine ⟨(fun z => nomatch z), fun _ => ?_⟩
      walk_at "WK"
      exact ⟨_, _, _, rfl, by (try dsimp only at hm3); (try dsimp only); omega, by omega, rfl⟩
    · rintro e1 ⟨s3, s4, n', hno, hn', hq, rfl⟩
      exact ⟨nok hno, Nat.le_of_ble_eq_true rfl, _, _, _, hno, rfl⟩
  · rintro e1 ⟨s1, s3, s4, hno, rfl⟩
    have k1 : okE 1 [] := ⟨by decide, by decide, by decide, fun s hs => nomatch hs⟩
    have k2 : okE 0 [] := ⟨by decide, by decide, by decide, fun s hs => nomatch hs⟩
    have x0 : ShX 5 1000 (.int 0) := shX_of (by decide +kernel)
    walk_at "WK"
    refine ⟨(1, []), rfl, k1, ?_⟩
    walk_at "WK"
    refine ⟨(2, ⟨effD C 1 [], rfl⟩, .int 0, .int 0, "balanced"), rfl, ⟨x0, x0, .b2 k1 (by decide)⟩, ?_⟩
    rintro d m ⟨rfl, rfl⟩
    refine ⟨rfl, ?_⟩
    dsimp only
    walk_at "WK"
    refine ⟨(0, []), rfl, k2, ?_⟩
    walk_at "WK"
    refine ⟨(2, ⟨effD C 0 [], rfl⟩, .int 0, .int 0, "fine"), rfl, ⟨x0, x0, .f2 k2 (by decide)⟩, ?_⟩
    rintro d m ⟨rfl, rfl⟩
    refine ⟨rfl, ?_⟩
    dsimp only
    walk_at "WK"
    exact ⟨by decide +kernel, by decide +kernel, bt_frz (by decide +kernel)⟩
end
end Wx

/-! ### part Hx -/
set_option Elab.async false
set_option linter.all false
set_option maxRecDepth 100000
set_option maxHeartbeats 1000000
set_option autoImplicit false
/-! What the head says of an own exception without fields. -/
namespace Wx
open PySem L2 PyProof.Rows
theorem ex0_ok {K : PySem.W.Frag} {mg : Str → Option Value} {x : Str} {C : Addr} (q : ex0B K C = true) (g : mg x = some (.ref C)) : Ex0 K mg x C := by
  obtain ⟨h1, q⟩ := He.ba q
  obtain ⟨h2, q⟩ := He.ba q
  obtain ⟨h3, q⟩ := He.ba q
  obtain ⟨h4, q⟩ := He.ba q
  obtain ⟨h5, q⟩ := He.ba q
  obtain ⟨h6, q⟩ := He.ba q
  obtain ⟨h7, q⟩ := He.ba q
  obtain ⟨h8, q⟩ := He.ba q
  obtain ⟨h9, q⟩ := He.ba q
  obtain ⟨ha, q⟩ := He.ba q
  obtain ⟨hb, q⟩ := He.ba q
  obtain ⟨hc, hd⟩ := He.ba q
  exact ⟨g, h1, h2, of_decide_eq_true h3, of_decide_eq_true h4, of_decide_eq_true h5, ⟨He.eqO_ok h6, He.eqO_ok h7, of_decide_eq_true h8, h9, He.eqO_ok ha, He.eqO_ok hb, of_decide_eq_true hc, of_decide_eq_true hd⟩⟩
end Wx

/-! ### part H9 -/
set_option Elab.async false
set_option linter.all false
set_option maxRecDepth 100000
set_option maxHeartbeats 0
set_option autoImplicit false
/-! The head's facts. -/
namespace Wx
open PySem L2 PyProof.Rows
theorem get_ok {K : PySem.W.Frag} {C : Addr} {d : GetD} (hb : getB K C d = true) (hv : fnAt K (gad K C d.name) = getV d) : ∃ fd, FunD K d.name (d.cn ++ d.name) (defArgs d.st) (defBody d.st) (defScope d.st) [] [] (gad K C d.name) fd ∧ PropOf K C d.name (pad K C d.name) (gad K C d.name) := by
  obtain ⟨b1, hb⟩ := He.ba hb
  obtain ⟨b2, hb⟩ := He.ba hb
  obtain ⟨b3, hb⟩ := He.ba hb
  obtain ⟨b4, hb⟩ := He.ba hb
  obtain ⟨b5, b6⟩ := He.ba hb
  have rc : ∃ rest, PySem.W.recIn K (pad K C d.name) "property" = some (.ref (gad K C d.name) :: rest) := by
    unfold gad
    cases z : PySem.W.recIn K (pad K C d.name) "property" with
    | none => rw [z] at b4; cases b4
    | some l =>
      cases l with
      | nil => rw [z] at b4; cases b4
      | cons v r =>
        cases v <;> first | exact ⟨r, rfl⟩ | (rw [z] at b4; cases b4)
  have pr : PropOf K C d.name (pad K C d.name) (gad K C d.name) := ⟨He.eqO_ok b1, He.eqO_ok b2, dec b3, rc⟩
  unfold fnAt getV at hv
  cases z : K.lookup (gad K C d.name) with
  | none => rw [z] at b6; cases b6
  | some o =>
    obtain ⟨oc, od, dt, osl⟩ := o
    rw [z] at b6 hv
    cases dt with
    | func fd =>
      obtain ⟨n1, n2, n3, n4, n5, n6, n7, n8, n9, n10, n11, n12, n13, n14, n15⟩ := fd
      simp only [Option.some.injEq, Prod.mk.injEq] at hv
      obtain ⟨h1, h2, h3, h4, h5, h6, h7, h8⟩ := hv
      subst h1 h2 h3 h4 h5 h6 h7 h8
      have b6' : (PySem.W.codeIn K n13 (d.cn ++ d.name) && (He.dflB K n8 [] && He.kwdB K n9 [])) = true := b6
      obtain ⟨c1, c2⟩ := He.ba b6'
      obtain ⟨c3, c4⟩ := He.ba c2
      exact ⟨_, ⟨⟨oc, od, n8, n9, n10, n11, n12, n13, n14, osl, rfl, z, c1, He.dflB_ok c3, He.kwdB_ok c4⟩, b5⟩, pr⟩
    | _ => cases b6
theorem cls_of {K : PySem.W.Frag} {C : Addr} (cl : Cls K C) (h : clsB K C = true) : KitC K C ∧ PySem.W.findIn K (.ref C) "__ne__" = some (some (.builtin "object.__ne__")) ∧ PySem.W.selfFirst K C = true := by
  obtain ⟨c1, h⟩ := He.ba h
  obtain ⟨c2, h⟩ := He.ba h
  obtain ⟨c3, h⟩ := He.ba h
  obtain ⟨c4, h⟩ := He.ba h
  obtain ⟨c5, h⟩ := He.ba h
  obtain ⟨c6, h⟩ := He.ba h
  obtain ⟨c7, x1⟩ := He.ba h
  refine ⟨⟨cl, He.eqO_ok c1, He.eqO_ok c2, dec c3, dec c4, dec c5, fun s hs => ?_⟩, He.eqO_ok c7, x1⟩
  obtain ⟨z1, z2⟩ := He.ba (List.all_eq_true.mp c6 s hs)
  exact ⟨dec z1, z2⟩
abbrev GetE (K : PySem.W.Frag) (d : GetD) : Prop := ∃ fd, FunD K d.name (d.cn ++ d.name) (defArgs d.st) (defBody d.st) (defScope d.st) [] [] (gad K (He.ga K d.c) d.name) fd ∧ PropOf K (He.ga K d.c) d.name (pad K (He.ga K d.c) d.name) (gad K (He.ga K d.c) d.name)
theorem More.all {K : PySem.W.Frag} (m : More K) : clsB K (He.ga K "Effect") = true ∧ clsB K (He.ga K "Program") = true ∧ (errsB K) = true := by
  obtain ⟨h1, h⟩ := He.ba m.b
  obtain ⟨h2, h⟩ := He.ba h
  obtain ⟨h4, h5⟩ := He.ba h
  exact ⟨h1, h2, h5⟩
theorem More.get {K : PySem.W.Frag} (m : More K) (i : Nat) (hi : i < gs.length) : GetE K gs[i] := by
  obtain ⟨h1, h⟩ := He.ba m.b
  obtain ⟨h2, h⟩ := He.ba h
  obtain ⟨h4, h5⟩ := He.ba h
  refine get_ok (List.all_eq_true.mp h4 _ (List.getElem_mem hi)) ?_
  have z : (gs.map (fun d => fnAt K (gad K (He.ga K d.c) d.name)))[i]? = (gs.map getV)[i]? := by rw [m.v, valG_eq]
  rw [List.getElem?_map, List.getElem?_map, List.getElem?_eq_getElem hi] at z
  exact Option.some.inj z
section
variable {P : Program} {w : World} {K : PySem.W.Frag} {mg : Str → Option Value} {base : Heap} {f : Addr} {fd : FuncData} {k : Nat} {ps : List Str}
theorem void_x {ι : Type} {ar : ι → List D} {pre : ι → Nat → Prop} {post : ι → Nat → D → Nat → Prop} (h : ∀ x n, ¬ pre x n) : ∀ vs H Q E, ¬ SpX K ar pre post vs H Q E := fun vs H Q E q => by
  obtain ⟨x, q⟩ := q
  have a := sp_len (m := 0) (fun ds n z => absurd z.2 (h x n)) vs H Q E q
  have b := sp_len (m := 1) (fun ds n z => absurd z.2 (h x n)) vs H Q E q
  omega
theorem void_nodes_from : ∀ vs H Q E, ¬ sp_nodes_from K 0 vs H Q E := void_x fun x n z => Nat.not_lt_zero _ z.2.2.1
theorem void_measure_in : ∀ vs H Q E, ¬ sp_measure_in K 0 vs H Q E := void_x fun x n z => Nat.not_lt_zero _ z.2
theorem void_length_in : ∀ vs H Q E, ¬ sp_length_in K 0 vs H Q E := void_x fun x n z => Nat.not_lt_zero _ z.2.2.2.2
theorem void_is_plain_in : ∀ vs H Q E, ¬ sp_is_plain_in K 0 vs H Q E := void_x fun x n z => Nat.not_lt_zero _ z.2
end
theorem FnOk.orR {P : Program} {w : World} {K : PySem.W.Frag} {mg : Str → Option Value} {base : Heap} {k : Nat} {f : Addr} {fd : FuncData} {ps : List Str} {s1 s2 : Sp} (F : FnOk P w K mg base (L2.CX P w) k f fd ps s1) (G : FnOk P w K mg base (L2.CX P w) k f fd ps s2) : FnOk P w K mg base (L2.CX P w) k f fd ps (SpO s1 s2) :=
  ⟨fun vs H Q E h => h.elim (F.len vs H Q E) (G.len vs H Q E), fun A outer s H args us vs Q E hr e0 hb hv hs => hs.elim (F.run A outer s H args us vs Q E hr e0 hb hv) (G.run A outer s H args us vs Q E hr e0 hb hv)⟩
theorem errs_of {K : PySem.W.Frag} (h : errsB K = true) : ∀ x ∈ err5, errB K x = true := fun x hx => List.all_eq_true.mp (He.ba h).1 x hx
theorem errs_ex {K : PySem.W.Frag} (h : errsB K = true) (x : Str) (hx : x ∈ err5) : ex0B K (He.ga K x) = true := (He.ba (errs_of h x hx)).1
theorem rn_mem : ∀ j, j < 5 → (rn j).1 ∈ err5
  | 0, _ => by decide
  | 1, _ => by decide
  | 2, _ => by decide
  | 3, _ => by decide
  | 4, _ => by decide
  | n + 5, h => by omega
theorem errs_er {K : PySem.W.Frag} (h : errsB K = true) : ∀ j, j < 5 → ErK K (rn j).1 := fun j hj => by
  obtain ⟨h1, h2⟩ := He.ba (errs_of h _ (rn_mem j hj))
  obtain ⟨h3, _⟩ := He.ba h2
  have x0 : Ex0 K (fun _ => some (.ref (He.ga K (rn j).1))) "x" (He.ga K (rn j).1) := ex0_ok h1 rfl
  exact ⟨x0.ec, fun y hy => of_decide_eq_true (List.all_eq_true.mp h3 y hy), x0.ve⟩
theorem errs_xs {K : PySem.W.Frag} (h : errsB K = true) : ∀ j, j < 5 → PySem.W.exmOne K (.ref (He.ga K (rn j).1)) (.ref (He.ga K "StackError")) = some true := fun j hj => of_decide_eq_true (He.ba (He.ba (errs_of h _ (rn_mem j hj))).2).2
theorem errs_d {K : PySem.W.Frag} (h : errsB K = true) : PySem.W.kitOne K (.type "dict") (.ref (He.ga K "Effect")) = some false := of_decide_eq_true (He.ba (He.ba h).2).1
theorem errs_p {K : PySem.W.Frag} (h : errsB K = true) : PySem.W.kitOne K (.ref (He.ga K "Program")) (.ref (He.ga K "Effect")) = some false := of_decide_eq_true (He.ba (He.ba h).2).2
theorem facts {P : Program} {w : World} {K : PySem.W.Frag} {h : Heap} {mg : Str → Option Value} {f : Addr} (X : K.In h) (G : h.Ns mainGlobals mg) (hfa : mg ("law" : Str) = some (.ref f)) (c : He.SaysD fa fn K) (b : More K) :
    ∃ fd : FuncData, (∀ (s : Shared) (v : Value), BindsTo s fd ⟨[v], []⟩ [("script", v)]) ∧ ∀ base : Heap, K.In base → base.Ns mainGlobals mg → FnG P w K mg base 19 f fd ["script"] (sp_law K) := by
  obtain ⟨fd, F⟩ := c.def_ 40 (d := d_law) rfl
  have e := hfa.symm.trans (He.glo_ok X G (c.fact 103 (f := .glo "law") rfl))
  cases e
  have bl := FunD.bindsA (ps := ["script"]) F fun _ _ _ _ _ _ us hl => match us, hl with | [_], _ => rfl
  refine ⟨fd, fun s v => bl s [v] rfl, fun base _ _ => ?_⟩
  have cl : Cls K (He.ga K "Effect") := He.cls_ok (c.fact 0 (f := .cls "Effect") rfl)
  have clp : Cls K (He.ga K "Program") := He.cls_ok (c.fact 1 (f := .cls "Program") rfl)
  obtain ⟨hbE, hbP, hbx⟩ := b.all
  obtain ⟨kc, ne, sf⟩ := cls_of cl hbE
  obtain ⟨kp, nep, sfp⟩ := cls_of clp hbP
  have e5 := hbx
  have gE : mg "Effect" = some (.ref (He.ga K "Effect")) := He.glo_ok X G (c.fact 2 (f := .glo "Effect") rfl)
  have gP : mg "Program" = some (.ref (He.ga K "Program")) := He.glo_ok X G (c.fact 3 (f := .glo "Program") rfl)
  have g_range : mg "range" = none := He.free_ok X G (c.fact 4 (f := .free "range") rfl)
  have g_max : mg "max" = none := He.free_ok X G (c.fact 5 (f := .free "max") rfl)
  obtain ⟨fd__law_kiln, F__law_kiln⟩ := c.def_ 0 (d := d__law_kiln) rfl
  have m__law_kiln : mg "_law_kiln" = some (.ref (He.ga K "_law_kiln")) := He.glo_ok X G (c.fact 6 (f := .glo "_law_kiln") rfl)
  have hb__law_kiln : Binds K fd__law_kiln ["script", "k"] [] := F__law_kiln.bindsN (fun _ _ _ _ _ _ us hl => match us, hl with | [_, _], _ => rfl)
  have g_len : mg "len" = none := He.free_ok X G (c.fact 7 (f := .free "len") rfl)
  have S__law_kiln : Std P w K mg base 1 "_law_kiln" ["script", "k"] (spKiln K) := ⟨_, fd__law_kiln, ok__law_kiln F__law_kiln g_len g_max, m__law_kiln, F__law_kiln.kp, hb__law_kiln⟩
  have g_min : mg "min" = none := He.free_ok X G (c.fact 8 (f := .free "min") rfl)
  obtain ⟨fd__law_shaped, F__law_shaped⟩ := c.def_ 1 (d := d__law_shaped) rfl
  have m__law_shaped : mg "_law_shaped" = some (.ref (He.ga K "_law_shaped")) := He.glo_ok X G (c.fact 9 (f := .glo "_law_shaped") rfl)
  have hb__law_shaped : Binds K fd__law_shaped ["kiln", "most"] [] := F__law_shaped.bindsN (fun _ _ _ _ _ _ us hl => match us, hl with | [_, _], _ => rfl)
  obtain ⟨fd__law_made, F__law_made⟩ := c.def_ 2 (d := d__law_made) rfl
  have m__law_made : mg "_law_made" = some (.ref (He.ga K "_law_made")) := He.glo_ok X G (c.fact 10 (f := .glo "_law_made") rfl)
  have hb__law_made : Binds K fd__law_made ["kiln", "most"] [] := F__law_made.bindsN (fun _ _ _ _ _ _ us hl => match us, hl with | [_, _], _ => rfl)
  obtain ⟨fd__law_scoop, F__law_scoop⟩ := c.def_ 3 (d := d__law_scoop) rfl
  have m__law_scoop : mg "_law_scoop" = some (.ref (He.ga K "_law_scoop")) := He.glo_ok X G (c.fact 11 (f := .glo "_law_scoop") rfl)
  have hb__law_scoop : Binds K fd__law_scoop ["kiln", "bound"] [] := F__law_scoop.bindsN (fun _ _ _ _ _ _ us hl => match us, hl with | [_, _], _ => rfl)
  have S__law_scoop : Std P w K mg base 1 "_law_scoop" ["kiln", "bound"] (sp__law_scoop K) := ⟨_, fd__law_scoop, ok__law_scoop F__law_scoop , m__law_scoop, F__law_scoop.kp, hb__law_scoop⟩
  have g_int : mg "int" = none := He.free_ok X G (c.fact 12 (f := .free "int") rfl)
  have g_tuple : mg "tuple" = none := He.free_ok X G (c.fact 13 (f := .free "tuple") rfl)
  have S__law_made : Std P w K mg base 2 "_law_made" ["kiln", "most"] (sp__law_made K) := ⟨_, fd__law_made, ok__law_made F__law_made S__law_scoop g_range g_min g_len g_int g_tuple, m__law_made, F__law_made.kp, hb__law_made⟩
  obtain ⟨fd__law_cut, F__law_cut⟩ := c.def_ 4 (d := d__law_cut) rfl
  have m__law_cut : mg "_law_cut" = some (.ref (He.ga K "_law_cut")) := He.glo_ok X G (c.fact 14 (f := .glo "_law_cut") rfl)
  have hb__law_cut : Binds K fd__law_cut ["taken_here", "left_here"] [] := F__law_cut.bindsN (fun _ _ _ _ _ _ us hl => match us, hl with | [_, _], _ => rfl)
  have S__law_cut : Std P w K mg base 1 "_law_cut" ["taken_here", "left_here"] (sp__law_cut K) := ⟨_, fd__law_cut, ok__law_cut F__law_cut , m__law_cut, F__law_cut.kp, hb__law_cut⟩
  have S__law_shaped : Std P w K mg base 3 "_law_shaped" ["kiln", "most"] (sp__law_shaped K) := ⟨_, fd__law_shaped, ok__law_shaped F__law_shaped S__law_made S__law_scoop g_max g_tuple g_min g_len S__law_cut, m__law_shaped, F__law_shaped.kp, hb__law_shaped⟩
  obtain ⟨fd__law_right, F__law_right⟩ := c.def_ 5 (d := d__law_right) rfl
  have m__law_right : mg "_law_right" = some (.ref (He.ga K "_law_right")) := He.glo_ok X G (c.fact 15 (f := .glo "_law_right") rfl)
  have hb__law_right : Binds K fd__law_right ["kiln", "one"] [] := F__law_right.bindsN (fun _ _ _ _ _ _ us hl => match us, hl with | [_, _], _ => rfl)
  obtain ⟨fd__law_told, F__law_told⟩ := c.def_ 6 (d := d__law_told) rfl
  have m__law_told : mg "_law_told" = some (.ref (He.ga K "_law_told")) := He.glo_ok X G (c.fact 16 (f := .glo "_law_told") rfl)
  have hb__law_told : Binds K fd__law_told ["door", "one", "two", "three"] [] := F__law_told.bindsN (fun _ _ _ _ _ _ us hl => match us, hl with | [_, _, _, _], _ => rfl)
  have g_repr : mg "repr" = none := He.free_ok X G (c.fact 17 (f := .free "repr") rfl)
  obtain ⟨fd_cell_after, F_cell_after⟩ := c.def_ 7 (d := d_cell_after) rfl
  have m_cell_after : mg "cell_after" = some (.ref (He.ga K "cell_after")) := He.glo_ok X G (c.fact 18 (f := .glo "cell_after") rfl)
  have hb_cell_after : Binds K fd_cell_after ["effect", "times", "depth"] [] := F_cell_after.bindsN (fun _ _ _ _ _ _ us hl => match us, hl with | [_, _, _], _ => rfl)
  obtain ⟨fd_require_effect, F_require_effect⟩ := c.def_ 8 (d := d_require_effect) rfl
  have m_require_effect : mg "require_effect" = some (.ref (He.ga K "require_effect")) := He.glo_ok X G (c.fact 19 (f := .glo "require_effect") rfl)
  have hb_require_effect : Binds K fd_require_effect ["value"] [] := F_require_effect.bindsN (fun _ _ _ _ _ _ us hl => match us, hl with | [_], _ => rfl)
  have g_isinstance : mg "isinstance" = none := He.free_ok X G (c.fact 20 (f := .free "isinstance") rfl)
  have a_kept_taken : NoAttr K (He.ga K "Effect") "kept_taken" := He.noat_ok (c.fact 21 (f := .noat "Effect" "kept_taken") rfl)
  have a_kept_left : NoAttr K (He.ga K "Effect") "kept_left" := He.noat_ok (c.fact 22 (f := .noat "Effect" "kept_left") rfl)
  have S_require_effect : Std P w K mg base 1 "require_effect" ["value"] (sp_require_effect K (He.ga K "Effect")) := ⟨_, fd_require_effect, ok_require_effect F_require_effect g_isinstance kc a_kept_taken a_kept_left gE, m_require_effect, F_require_effect.kp, hb_require_effect⟩
  obtain ⟨fd_require_times, F_require_times⟩ := c.def_ 9 (d := d_require_times) rfl
  have m_require_times : mg "require_times" = some (.ref (He.ga K "require_times")) := He.glo_ok X G (c.fact 23 (f := .glo "require_times") rfl)
  have hb_require_times : Binds K fd_require_times ["value"] [] := F_require_times.bindsN (fun _ _ _ _ _ _ us hl => match us, hl with | [_], _ => rfl)
  obtain ⟨fd_in_range, F_in_range⟩ := c.def_ 10 (d := d_in_range) rfl
  have m_in_range : mg "in_range" = some (.ref (He.ga K "in_range")) := He.glo_ok X G (c.fact 24 (f := .glo "in_range") rfl)
  have hb_in_range : Binds K fd_in_range ["value", "low", "high"] [] := F_in_range.bindsN (fun _ _ _ _ _ _ us hl => match us, hl with | [_, _, _], _ => rfl)
  obtain ⟨fd_is_int, F_is_int⟩ := c.def_ 11 (d := d_is_int) rfl
  have m_is_int : mg "is_int" = some (.ref (He.ga K "is_int")) := He.glo_ok X G (c.fact 25 (f := .glo "is_int") rfl)
  have hb_is_int : Binds K fd_is_int ["value"] [] := F_is_int.bindsN (fun _ _ _ _ _ _ us hl => match us, hl with | [_], _ => rfl)
  have g_bool : mg "bool" = none := He.free_ok X G (c.fact 26 (f := .free "bool") rfl)
  have S_is_int : Std P w K mg base 1 "is_int" ["value"] (sp_is_int K) := ⟨_, fd_is_int, ok_is_int F_is_int g_isinstance g_int g_bool, m_is_int, F_is_int.kp, hb_is_int⟩
  have S_in_range : Std P w K mg base 2 "in_range" ["value", "low", "high"] (sp_in_range K) := ⟨_, fd_in_range, ok_in_range F_in_range S_is_int, m_in_range, F_in_range.kp, hb_in_range⟩
  have i_MOST_TIMES : GInt mg "MOST_TIMES" (10 ^ 30) := He.int_ok X G (c.fact 27 (f := .int "MOST_TIMES" (10 ^ 30)) rfl)
  have S_require_times : Std P w K mg base 3 "require_times" ["value"] (sp_require_times K) := ⟨_, fd_require_times, ok_require_times F_require_times S_in_range i_MOST_TIMES, m_require_times, F_require_times.kp, hb_require_times⟩
  obtain ⟨fd_require_depth, F_require_depth⟩ := c.def_ 12 (d := d_require_depth) rfl
  have m_require_depth : mg "require_depth" = some (.ref (He.ga K "require_depth")) := He.glo_ok X G (c.fact 28 (f := .glo "require_depth") rfl)
  have hb_require_depth : Binds K fd_require_depth ["value"] [] := F_require_depth.bindsN (fun _ _ _ _ _ _ us hl => match us, hl with | [_], _ => rfl)
  have S_require_depth : Std P w K mg base 2 "require_depth" ["value"] (sp_require_depth K) := ⟨_, fd_require_depth, ok_require_depth F_require_depth S_is_int, m_require_depth, F_require_depth.kp, hb_require_depth⟩
  obtain ⟨fd_far_source, F_far_source⟩ := c.def_ 13 (d := d_far_source) rfl
  have m_far_source : mg "far_source" = some (.ref (He.ga K "far_source")) := He.glo_ok X G (c.fact 29 (f := .glo "far_source") rfl)
  have hb_far_source : Binds K fd_far_source ["pair", "times", "depth"] [] := F_far_source.bindsN (fun _ _ _ _ _ _ us hl => match us, hl with | [_, _, _], _ => rfl)
  have S_far_source : Std P w K mg base 1 "far_source" ["pair", "times", "depth"] (sp_far_source K) := ⟨_, fd_far_source, ok_far_source F_far_source g_len g_min, m_far_source, F_far_source.kp, hb_far_source⟩
  obtain ⟨fd_Effect_taken, F_Effect_taken, Q_Effect_taken⟩ := b.get 0 (by decide)
  have P_Effect_taken : StdP P w K mg base 1 (He.ga K "Effect") "taken" (sp_Effect_taken K (He.ga K "Effect")) := ⟨_, _, fd_Effect_taken, _, Q_Effect_taken, ok_Effect_taken F_Effect_taken kc a_kept_taken a_kept_left gE, F_Effect_taken.bindsN (ps := ["self"]) (fun _ _ _ _ _ _ us hl => match us, hl with | [_], _ => rfl)⟩
  obtain ⟨fd_Effect_left, F_Effect_left, Q_Effect_left⟩ := b.get 1 (by decide)
  have P_Effect_left : StdP P w K mg base 1 (He.ga K "Effect") "left" (sp_Effect_left K (He.ga K "Effect")) := ⟨_, _, fd_Effect_left, _, Q_Effect_left, ok_Effect_left F_Effect_left kc a_kept_taken a_kept_left gE, F_Effect_left.bindsN (ps := ["self"]) (fun _ _ _ _ _ _ us hl => match us, hl with | [_], _ => rfl)⟩
  have X0_InvalidEffect : Ex0 K mg "InvalidEffect" (He.ga K "InvalidEffect") := ex0_ok (errs_ex e5 "InvalidEffect" (by decide)) (He.glo_ok X G (c.fact 30 (f := .glo "InvalidEffect") rfl))
  have R_require_effect_InvalidEffect : StdE P w K mg base 1 "require_effect" ["value"] (spr_require_effect K (He.ga K "Effect") (He.ga K "InvalidEffect")) := ⟨_, fd_require_effect, (okr_require_effect F_require_effect g_isinstance kc a_kept_taken a_kept_left gE X0_InvalidEffect), m_require_effect, F_require_effect.kp, hb_require_effect⟩
  have S_is_intP : Std P w K mg base 1 "is_int" ["value"] (sp_is_intP K) := ⟨_, fd_is_int, ok_is_intP F_is_int g_isinstance g_int g_bool, m_is_int, F_is_int.kp, hb_is_int⟩
  have S_in_rangeP : Std P w K mg base 2 "in_range" ["value", "low", "high"] (sp_in_rangeP K) := ⟨_, fd_in_range, ok_in_rangeP F_in_range S_is_intP, m_in_range, F_in_range.kp, hb_in_range⟩
  have X0_InvalidTimes : Ex0 K mg "InvalidTimes" (He.ga K "InvalidTimes") := ex0_ok (errs_ex e5 "InvalidTimes" (by decide)) (He.glo_ok X G (c.fact 31 (f := .glo "InvalidTimes") rfl))
  have R_require_times_InvalidTimes : StdE P w K mg base 3 "require_times" ["value"] (spr_require_times K (He.ga K "Effect") (He.ga K "InvalidTimes")) := ⟨_, fd_require_times, (okr_require_times F_require_times S_in_rangeP i_MOST_TIMES X0_InvalidTimes), m_require_times, F_require_times.kp, hb_require_times⟩
  have X0_InvalidDepth : Ex0 K mg "InvalidDepth" (He.ga K "InvalidDepth") := ex0_ok (errs_ex e5 "InvalidDepth" (by decide)) (He.glo_ok X G (c.fact 32 (f := .glo "InvalidDepth") rfl))
  have R_require_depth_InvalidDepth : StdE P w K mg base 2 "require_depth" ["value"] (spr_require_depth K (He.ga K "Effect") (He.ga K "InvalidDepth")) := ⟨_, fd_require_depth, (okr_require_depth F_require_depth S_is_intP X0_InvalidDepth), m_require_depth, F_require_depth.kp, hb_require_depth⟩
  have R_cell_after : StdE P w K mg base 4 "cell_after" ["effect", "times", "depth"] (SpO (sp_cell_after K (He.ga K "Effect")) (SpO (spr_cell_afterE K (He.ga K "Effect") (He.ga K "InvalidEffect")) (SpO (spr_cell_afterT K (He.ga K "Effect") (He.ga K "InvalidTimes")) (spr_cell_afterD K (He.ga K "Effect") (He.ga K "InvalidDepth"))))) := ⟨_, fd_cell_after, (FnOk.or (ok_cell_after F_cell_after S_require_effect S_require_times S_require_depth S_far_source kc a_kept_taken a_kept_left gE P_Effect_taken P_Effect_left) (FnOk.orR (okr_cell_afterE F_cell_after R_require_effect_InvalidEffect S_require_times S_require_depth S_far_source kc a_kept_taken a_kept_left gE P_Effect_taken P_Effect_left) (FnOk.orR (okr_cell_afterT F_cell_after S_require_effect R_require_times_InvalidTimes S_require_depth S_far_source kc a_kept_taken a_kept_left gE P_Effect_taken P_Effect_left) (okr_cell_afterD F_cell_after S_require_effect S_require_times R_require_depth_InvalidDepth S_far_source kc a_kept_taken a_kept_left gE P_Effect_taken P_Effect_left)))), m_cell_after, F_cell_after.kp, hb_cell_after⟩
  obtain ⟨fd_first_time, F_first_time⟩ := c.def_ 14 (d := d_first_time) rfl
  have m_first_time : mg "first_time" = some (.ref (He.ga K "first_time")) := He.glo_ok X G (c.fact 33 (f := .glo "first_time") rfl)
  have hb_first_time : Binds K fd_first_time ["effect", "depth", "source"] [] := F_first_time.bindsN (fun _ _ _ _ _ _ us hl => match us, hl with | [_, _, _], _ => rfl)
  obtain ⟨fd_require_source, F_require_source⟩ := c.def_ 15 (d := d_require_source) rfl
  have m_require_source : mg "require_source" = some (.ref (He.ga K "require_source")) := He.glo_ok X G (c.fact 34 (f := .glo "require_source") rfl)
  have hb_require_source : Binds K fd_require_source ["value"] [] := F_require_source.bindsN (fun _ _ _ _ _ _ us hl => match us, hl with | [_], _ => rfl)
  obtain ⟨fd_is_source, F_is_source⟩ := c.def_ 16 (d := d_is_source) rfl
  have m_is_source : mg "is_source" = some (.ref (He.ga K "is_source")) := He.glo_ok X G (c.fact 35 (f := .glo "is_source") rfl)
  have hb_is_source : Binds K fd_is_source ["value"] [] := F_is_source.bindsN (fun _ _ _ _ _ _ us hl => match us, hl with | [_], _ => rfl)
  have g_str : mg "str" = none := He.free_ok X G (c.fact 36 (f := .free "str") rfl)
  obtain ⟨fd_is_constant, F_is_constant⟩ := c.def_ 17 (d := d_is_constant) rfl
  have m_is_constant : mg "is_constant" = some (.ref (He.ga K "is_constant")) := He.glo_ok X G (c.fact 37 (f := .glo "is_constant") rfl)
  have hb_is_constant : Binds K fd_is_constant ["value"] [] := F_is_constant.bindsN (fun _ _ _ _ _ _ us hl => match us, hl with | [_], _ => rfl)
  have i_GREATEST : GInt mg "GREATEST" (10 ^ 30) := He.int_ok X G (c.fact 38 (f := .int "GREATEST" (10 ^ 30)) rfl)
  have S_is_constant : Std P w K mg base 3 "is_constant" ["value"] (sp_is_constant K) := ⟨_, fd_is_constant, ok_is_constant F_is_constant S_in_range i_GREATEST, m_is_constant, F_is_constant.kp, hb_is_constant⟩
  have S_is_source : Std P w K mg base 4 "is_source" ["value"] (sp_is_source K) := ⟨_, fd_is_source, ok_is_source F_is_source g_isinstance g_tuple g_len g_str S_is_int S_is_constant, m_is_source, F_is_source.kp, hb_is_source⟩
  have S_require_source : Std P w K mg base 5 "require_source" ["value"] (sp_require_source K) := ⟨_, fd_require_source, ok_require_source F_require_source S_is_source, m_require_source, F_require_source.kp, hb_require_source⟩
  obtain ⟨fd_first_in, F_first_in⟩ := c.def_ 18 (d := d_first_in) rfl
  have m_first_in : mg "first_in" = some (.ref (He.ga K "first_in")) := He.glo_ok X G (c.fact 39 (f := .glo "first_in") rfl)
  have hb_first_in : Binds K fd_first_in ["pair", "depth", "source"] [] := F_first_in.bindsN (fun _ _ _ _ _ _ us hl => match us, hl with | [_, _, _], _ => rfl)
  have S_first_in : Std P w K mg base 1 "first_in" ["pair", "depth", "source"] (sp_first_in K) := ⟨_, fd_first_in, ok_first_in F_first_in g_len, m_first_in, F_first_in.kp, hb_first_in⟩
  have S_is_constantP : Std P w K mg base 3 "is_constant" ["value"] (sp_is_constantP K) := ⟨_, fd_is_constant, ok_is_constantP F_is_constant S_in_rangeP i_GREATEST, m_is_constant, F_is_constant.kp, hb_is_constant⟩
  have S_is_sourceP : Std P w K mg base 4 "is_source" ["value"] (sp_is_sourceP K) := ⟨_, fd_is_source, ok_is_sourceP F_is_source g_isinstance g_tuple g_len g_str S_is_intP S_is_constantP, m_is_source, F_is_source.kp, hb_is_source⟩
  have X0_InvalidSource : Ex0 K mg "InvalidSource" (He.ga K "InvalidSource") := ex0_ok (errs_ex e5 "InvalidSource" (by decide)) (He.glo_ok X G (c.fact 40 (f := .glo "InvalidSource") rfl))
  have R_require_source_InvalidSource : StdE P w K mg base 5 "require_source" ["value"] (spr_require_source K (He.ga K "Effect") (He.ga K "InvalidSource")) := ⟨_, fd_require_source, (okr_require_source F_require_source S_is_sourceP X0_InvalidSource), m_require_source, F_require_source.kp, hb_require_source⟩
  have R_first_time : StdE P w K mg base 6 "first_time" ["effect", "depth", "source"] (SpO (sp_first_time K (He.ga K "Effect")) (SpO (spr_first_timeE K (He.ga K "Effect") (He.ga K "InvalidEffect")) (SpO (spr_first_timeD K (He.ga K "Effect") (He.ga K "InvalidDepth")) (spr_first_timeS K (He.ga K "Effect") (He.ga K "InvalidSource"))))) := ⟨_, fd_first_time, (FnOk.or (ok_first_time F_first_time S_require_effect S_require_depth S_require_source S_first_in kc a_kept_taken a_kept_left gE P_Effect_taken P_Effect_left) (FnOk.orR (okr_first_timeE F_first_time R_require_effect_InvalidEffect S_require_depth S_require_source S_first_in kc a_kept_taken a_kept_left gE P_Effect_taken P_Effect_left) (FnOk.orR (okr_first_timeD F_first_time S_require_effect R_require_depth_InvalidDepth S_require_source S_first_in kc a_kept_taken a_kept_left gE P_Effect_taken P_Effect_left) (okr_first_timeS F_first_time S_require_effect S_require_depth R_require_source_InvalidSource S_first_in kc a_kept_taken a_kept_left gE P_Effect_taken P_Effect_left)))), m_first_time, F_first_time.kp, hb_first_time⟩
  obtain ⟨fd_settles, F_settles⟩ := c.def_ 19 (d := d_settles) rfl
  have m_settles : mg "settles" = some (.ref (He.ga K "settles")) := He.glo_ok X G (c.fact 41 (f := .glo "settles") rfl)
  have hb_settles : Binds K fd_settles ["effect"] [] := F_settles.bindsN (fun _ _ _ _ _ _ us hl => match us, hl with | [_], _ => rfl)
  obtain ⟨fd_tail_and_ring, F_tail_and_ring⟩ := c.def_ 20 (d := d_tail_and_ring) rfl
  have m_tail_and_ring : mg "tail_and_ring" = some (.ref (He.ga K "tail_and_ring")) := He.glo_ok X G (c.fact 42 (f := .glo "tail_and_ring") rfl)
  have hb_tail_and_ring : Binds K fd_tail_and_ring ["left", "depth"] [] := F_tail_and_ring.bindsN (fun _ _ _ _ _ _ us hl => match us, hl with | [_, _], _ => rfl)
  have S_tail_and_ring : Std P w K mg base 1 "tail_and_ring" ["left", "depth"] (sp_tail_and_ring K) := ⟨_, fd_tail_and_ring, ok_tail_and_ring F_tail_and_ring g_len, m_tail_and_ring, F_tail_and_ring.kp, hb_tail_and_ring⟩
  obtain ⟨fd_common_divisor, F_common_divisor⟩ := c.def_ 21 (d := d_common_divisor) rfl
  have m_common_divisor : mg "common_divisor" = some (.ref (He.ga K "common_divisor")) := He.glo_ok X G (c.fact 43 (f := .glo "common_divisor") rfl)
  have hb_common_divisor : Binds K fd_common_divisor ["one", "other"] [] := F_common_divisor.bindsN (fun _ _ _ _ _ _ us hl => match us, hl with | [_, _], _ => rfl)
  have S_common_divisor : Std P w K mg base 1 "common_divisor" ["one", "other"] (sp_common_divisor K) := ⟨_, fd_common_divisor, ok_common_divisor F_common_divisor , m_common_divisor, F_common_divisor.kp, hb_common_divisor⟩
  obtain ⟨fd_Effect_growth, F_Effect_growth, Q_Effect_growth⟩ := b.get 2 (by decide)
  have P_Effect_growth : StdP P w K mg base 1 (He.ga K "Effect") "growth" (sp_Effect_growth K (He.ga K "Effect")) := ⟨_, _, fd_Effect_growth, _, Q_Effect_growth, ok_Effect_growth F_Effect_growth g_len kc a_kept_taken a_kept_left gE, F_Effect_growth.bindsN (ps := ["self"]) (fun _ _ _ _ _ _ us hl => match us, hl with | [_], _ => rfl)⟩
  have X0_NotBalanced : Ex0 K mg "NotBalanced" (He.ga K "NotBalanced") := ex0_ok (errs_ex e5 "NotBalanced" (by decide)) (He.glo_ok X G (c.fact 44 (f := .glo "NotBalanced") rfl))
  have R_settles : StdE P w K mg base 3 "settles" ["effect"] (SpO (sp_settles K (He.ga K "Effect")) (SpO (spr_settlesE K (He.ga K "Effect") (He.ga K "InvalidEffect")) (spr_settlesB K (He.ga K "Effect") (He.ga K "NotBalanced")))) := ⟨_, fd_settles, (FnOk.or (ok_settles F_settles S_require_effect g_range S_tail_and_ring g_max S_common_divisor kc a_kept_taken a_kept_left gE P_Effect_taken P_Effect_left P_Effect_growth) (FnOk.orR (okr_settlesE F_settles R_require_effect_InvalidEffect g_range S_tail_and_ring g_max S_common_divisor kc a_kept_taken a_kept_left gE P_Effect_taken P_Effect_left P_Effect_growth X0_NotBalanced) (okr_settlesB F_settles S_require_effect g_range S_tail_and_ring g_max S_common_divisor kc a_kept_taken a_kept_left gE P_Effect_taken P_Effect_left P_Effect_growth X0_NotBalanced))), m_settles, F_settles.kp, hb_settles⟩
  obtain ⟨fd__law_class, F__law_class⟩ := c.def_ 22 (d := d__law_class) rfl
  have m__law_class : mg "_law_class" = some (.ref (He.ga K "_law_class")) := He.glo_ok X G (c.fact 45 (f := .glo "_law_class") rfl)
  have hb__law_class : Binds K fd__law_class ["caught"] [] := F__law_class.bindsN (fun _ _ _ _ _ _ us hl => match us, hl with | [_], _ => rfl)
  have g_ValueError : mg "ValueError" = none := He.free_ok X G (c.fact 46 (f := .free "ValueError") rfl)
  have CG : ClN K mg := ⟨fun x hx => by
    simp only [CN, List.mem_cons, List.not_mem_nil, or_false] at hx
    rcases hx with rfl | rfl | rfl | rfl | rfl | rfl | rfl | rfl | rfl | rfl | rfl | rfl | rfl | rfl | rfl | rfl | rfl | rfl | rfl | rfl | rfl | rfl | rfl | rfl | rfl | rfl | rfl
    · exact He.glo_ok X G (c.fact 47 (f := .glo "InvalidProgram") rfl)
    · exact He.glo_ok X G (c.fact 48 (f := .glo "NotPlain") rfl)
    · exact He.glo_ok X G (c.fact 30 (f := .glo "InvalidEffect") rfl)
    · exact He.glo_ok X G (c.fact 49 (f := .glo "InvalidStack") rfl)
    · exact He.glo_ok X G (c.fact 32 (f := .glo "InvalidDepth") rfl)
    · exact He.glo_ok X G (c.fact 50 (f := .glo "InvalidStep") rfl)
    · exact He.glo_ok X G (c.fact 40 (f := .glo "InvalidSource") rfl)
    · exact He.glo_ok X G (c.fact 31 (f := .glo "InvalidTimes") rfl)
    · exact He.glo_ok X G (c.fact 51 (f := .glo "InvalidIndex") rfl)
    · exact He.glo_ok X G (c.fact 52 (f := .glo "InvalidChoices") rfl)
    · exact He.glo_ok X G (c.fact 44 (f := .glo "NotBalanced") rfl)
    · exact He.glo_ok X G (c.fact 53 (f := .glo "TooHigh") rfl)
    · exact He.glo_ok X G (c.fact 54 (f := .glo "ShortStack") rfl)
    · exact He.glo_ok X G (c.fact 55 (f := .glo "InvalidCommand") rfl)
    · exact He.glo_ok X G (c.fact 56 (f := .glo "InvalidName") rfl)
    · exact He.glo_ok X G (c.fact 57 (f := .glo "InvalidOperation") rfl)
    · exact He.glo_ok X G (c.fact 58 (f := .glo "InvalidPile") rfl)
    · exact He.glo_ok X G (c.fact 59 (f := .glo "InvalidText") rfl)
    · exact He.glo_ok X G (c.fact 60 (f := .glo "InvalidUnits") rfl)
    · exact He.glo_ok X G (c.fact 61 (f := .glo "InvalidValue") rfl)
    · exact He.glo_ok X G (c.fact 62 (f := .glo "InvalidWord") rfl)
    · exact He.glo_ok X G (c.fact 63 (f := .glo "Lost") rfl)
    · exact He.glo_ok X G (c.fact 64 (f := .glo "NoSuchStep") rfl)
    · exact He.glo_ok X G (c.fact 65 (f := .glo "Nothing") rfl)
    · exact He.glo_ok X G (c.fact 66 (f := .glo "NotReachable") rfl)
    · exact He.glo_ok X G (c.fact 67 (f := .glo "TooDeep") rfl)
    · exact He.glo_ok X G (c.fact 68 (f := .glo "TooLarge") rfl)⟩
  have ER : ∀ j, j < 5 → ErK K (rn j).1 := errs_er e5
  have S__law_class : Std P w K mg base 1 "_law_class" ["caught"] (sp__law_class K) := ⟨_, fd__law_class, ok__law_class F__law_class g_isinstance g_repr g_ValueError CG ER, m__law_class, F__law_class.kp, hb__law_class⟩
  have gg_StackError : mg "StackError" = some (.ref (He.ga K "StackError")) := He.glo_ok X G (c.fact 69 (f := .glo "StackError") rfl)
  have XS : ∀ j, j < 5 → PySem.W.exmOne K (.ref (He.ga K (rn j).1)) (.ref (He.ga K "StackError")) = some true := errs_xs e5
  have S__law_told : StdG P w K mg base 9 "_law_told" ["door", "one", "two", "three"] (sp__law_told K (He.ga K "Effect")) := ⟨_, fd__law_told, ok__law_told F__law_told g_repr R_cell_after R_first_time R_settles S__law_class gg_StackError XS, m__law_told, F__law_told.kp, hb__law_told⟩
  obtain ⟨fd_Program___init__, F_Program___init__⟩ := c.def_ 23 (d := d_Program___init__) rfl
  obtain ⟨fd_words_of, F_words_of⟩ := c.def_ 24 (d := d_words_of) rfl
  have m_words_of : mg "words_of" = some (.ref (He.ga K "words_of")) := He.glo_ok X G (c.fact 71 (f := .glo "words_of") rfl)
  have hb_words_of : Binds K fd_words_of ["text"] [] := F_words_of.bindsN (fun _ _ _ _ _ _ us hl => match us, hl with | [_], _ => rfl)
  have S_words_of : Std P w K mg base 1 "words_of" ["text"] (sp_words_of K) := ⟨_, fd_words_of, ok_words_of F_words_of , m_words_of, F_words_of.kp, hb_words_of⟩
  obtain ⟨fd_first_wrong, F_first_wrong⟩ := c.def_ 25 (d := d_first_wrong) rfl
  have m_first_wrong : mg "first_wrong" = some (.ref (He.ga K "first_wrong")) := He.glo_ok X G (c.fact 72 (f := .glo "first_wrong") rfl)
  have hb_first_wrong : Binds K fd_first_wrong ["words", "growths"] [] := F_first_wrong.bindsN (fun _ _ _ _ _ _ us hl => match us, hl with | [_, _], _ => rfl)
  have g_enumerate : mg "enumerate" = none := He.free_ok X G (c.fact 73 (f := .free "enumerate") rfl)
  have i_MOST_WORDS : GInt mg "MOST_WORDS" 1000 := He.int_ok X G (c.fact 74 (f := .int "MOST_WORDS" 1000) rfl)
  have i_MOST_OPEN : GInt mg "MOST_OPEN" 12 := He.int_ok X G (c.fact 75 (f := .int "MOST_OPEN" 12) rfl)
  obtain ⟨fd_is_instruction, F_is_instruction⟩ := c.def_ 26 (d := d_is_instruction) rfl
  have m_is_instruction : mg "is_instruction" = some (.ref (He.ga K "is_instruction")) := He.glo_ok X G (c.fact 76 (f := .glo "is_instruction") rfl)
  have hb_is_instruction : Binds K fd_is_instruction ["word"] [] := F_is_instruction.bindsN (fun _ _ _ _ _ _ us hl => match us, hl with | [_], _ => rfl)
  obtain ⟨fd_is_decimal, F_is_decimal⟩ := c.def_ 27 (d := d_is_decimal) rfl
  have m_is_decimal : mg "is_decimal" = some (.ref (He.ga K "is_decimal")) := He.glo_ok X G (c.fact 77 (f := .glo "is_decimal") rfl)
  have hb_is_decimal : Binds K fd_is_decimal ["signs", "low", "high"] [] := F_is_decimal.bindsN (fun _ _ _ _ _ _ us hl => match us, hl with | [_, _, _], _ => rfl)
  have i_MOST_DIGITS : GInt mg "MOST_DIGITS" 31 := He.int_ok X G (c.fact 78 (f := .int "MOST_DIGITS" 31) rfl)
  have g_all : mg "all" = none := He.free_ok X G (c.fact 79 (f := .free "all") rfl)
  have s_DIGITS : GStr mg "DIGITS" "0123456789" := He.str_ok X G (c.fact 80 (f := .str "DIGITS" "0123456789") rfl)
  have S_is_decimal : Std P w K mg base 1 "is_decimal" ["signs", "low", "high"] (sp_is_decimal K) := ⟨_, fd_is_decimal, ok_is_decimal F_is_decimal i_MOST_DIGITS g_all g_len s_DIGITS g_int, m_is_decimal, F_is_decimal.kp, hb_is_decimal⟩
  have i_MOST_HIGH : GInt mg "MOST_HIGH" 100 := He.int_ok X G (c.fact 81 (f := .int "MOST_HIGH" 100) rfl)
  obtain ⟨fd_is_constant_word, F_is_constant_word⟩ := c.def_ 28 (d := d_is_constant_word) rfl
  have m_is_constant_word : mg "is_constant_word" = some (.ref (He.ga K "is_constant_word")) := He.glo_ok X G (c.fact 82 (f := .glo "is_constant_word") rfl)
  have hb_is_constant_word : Binds K fd_is_constant_word ["word"] [] := F_is_constant_word.bindsN (fun _ _ _ _ _ _ us hl => match us, hl with | [_], _ => rfl)
  have S_is_constant_word : Std P w K mg base 2 "is_constant_word" ["word"] (sp_is_constant_word K) := ⟨_, fd_is_constant_word, ok_is_constant_word F_is_constant_word S_is_decimal i_GREATEST, m_is_constant_word, F_is_constant_word.kp, hb_is_constant_word⟩
  have S_is_instruction : Std P w K mg base 3 "is_instruction" ["word"] (sp_is_instruction K) := ⟨_, fd_is_instruction, ok_is_instruction F_is_instruction S_is_decimal i_MOST_HIGH S_is_constant_word, m_is_instruction, F_is_instruction.kp, hb_is_instruction⟩
  obtain ⟨fd_measure_of, F_measure_of⟩ := c.def_ 29 (d := d_measure_of) rfl
  have m_measure_of : mg "measure_of" = some (.ref (He.ga K "measure_of")) := He.glo_ok X G (c.fact 83 (f := .glo "measure_of") rfl)
  have hb_measure_of : Binds K fd_measure_of ["word"] [] := F_measure_of.bindsN (fun _ _ _ _ _ _ us hl => match us, hl with | [_], _ => rfl)
  have S_measure_of : Std P w K mg base 1 "measure_of" ["word"] (sp_measure_of K) := ⟨_, fd_measure_of, ok_measure_of F_measure_of g_int, m_measure_of, F_measure_of.kp, hb_measure_of⟩
  have S_first_wrong : Std P w K mg base 4 "first_wrong" ["words", "growths"] (sp_first_wrong K) := ⟨_, fd_first_wrong, ok_first_wrong F_first_wrong g_enumerate i_MOST_WORDS i_MOST_OPEN g_len g_int S_is_instruction S_is_decimal i_MOST_TIMES S_measure_of, m_first_wrong, F_first_wrong.kp, hb_first_wrong⟩
  obtain ⟨fd_nodes_in, F_nodes_in⟩ := c.def_ 30 (d := d_nodes_in) rfl
  have m_nodes_in : mg "nodes_in" = some (.ref (He.ga K "nodes_in")) := He.glo_ok X G (c.fact 84 (f := .glo "nodes_in") rfl)
  have hb_nodes_in : Binds K fd_nodes_in ["words"] [] := F_nodes_in.bindsN (fun _ _ _ _ _ _ us hl => match us, hl with | [_], _ => rfl)
  obtain ⟨fd_nodes_from, F_nodes_from⟩ := c.def_ 31 (d := d_nodes_from) rfl
  have m_nodes_from : mg "nodes_from" = some (.ref (He.ga K "nodes_from")) := He.glo_ok X G (c.fact 85 (f := .glo "nodes_from") rfl)
  have hb_nodes_from : Binds K fd_nodes_from ["words", "place"] [] := F_nodes_from.bindsN (fun _ _ _ _ _ _ us hl => match us, hl with | [_, _], _ => rfl)
  have S_nodes_from : Std P w K mg base 14 "nodes_from" ["words", "place"] (sp_nodes_from K 13) := ⟨_, fd_nodes_from, rec_ok (k0 := 1) (sp := fun d => sp_nodes_from K d) m_nodes_from F_nodes_from.kp hb_nodes_from (void_nodes_from) (fun d S => ok_nodes_from F_nodes_from g_len S g_int g_tuple) 13, m_nodes_from, F_nodes_from.kp, hb_nodes_from⟩
  have S_nodes_in : Std P w K mg base 15 "nodes_in" ["words"] (sp_nodes_in K) := ⟨_, fd_nodes_in, ok_nodes_in F_nodes_in S_nodes_from, m_nodes_in, F_nodes_in.kp, hb_nodes_in⟩
  obtain ⟨fd_measure_in, F_measure_in⟩ := c.def_ 32 (d := d_measure_in) rfl
  have m_measure_in : mg "measure_in" = some (.ref (He.ga K "measure_in")) := He.glo_ok X G (c.fact 86 (f := .glo "measure_in") rfl)
  have hb_measure_in : Binds K fd_measure_in ["nodes"] [] := F_measure_in.bindsN (fun _ _ _ _ _ _ us hl => match us, hl with | [_], _ => rfl)
  obtain ⟨fd_joined_measure, F_joined_measure⟩ := c.def_ 33 (d := d_joined_measure) rfl
  have m_joined_measure : mg "joined_measure" = some (.ref (He.ga K "joined_measure")) := He.glo_ok X G (c.fact 87 (f := .glo "joined_measure") rfl)
  have hb_joined_measure : Binds K fd_joined_measure ["measure", "other"] [] := F_joined_measure.bindsN (fun _ _ _ _ _ _ us hl => match us, hl with | [_, _], _ => rfl)
  have S_joined_measure : Std P w K mg base 1 "joined_measure" ["measure", "other"] (sp_joined_measure K) := ⟨_, fd_joined_measure, ok_joined_measure F_joined_measure g_max, m_joined_measure, F_joined_measure.kp, hb_joined_measure⟩
  obtain ⟨fd_repeated_measure, F_repeated_measure⟩ := c.def_ 34 (d := d_repeated_measure) rfl
  have m_repeated_measure : mg "repeated_measure" = some (.ref (He.ga K "repeated_measure")) := He.glo_ok X G (c.fact 88 (f := .glo "repeated_measure") rfl)
  have hb_repeated_measure : Binds K fd_repeated_measure ["measure", "number"] [] := F_repeated_measure.bindsN (fun _ _ _ _ _ _ us hl => match us, hl with | [_, _], _ => rfl)
  have S_repeated_measure : Std P w K mg base 1 "repeated_measure" ["measure", "number"] (sp_repeated_measure K) := ⟨_, fd_repeated_measure, ok_repeated_measure F_repeated_measure g_max, m_repeated_measure, F_repeated_measure.kp, hb_repeated_measure⟩
  have S_measure_in : Std P w K mg base 14 "measure_in" ["nodes"] (sp_measure_in K 13) := ⟨_, fd_measure_in, rec_ok (k0 := 1) (sp := fun d => sp_measure_in K d) m_measure_in F_measure_in.kp hb_measure_in (void_measure_in) (fun d S => ok_measure_in F_measure_in S_joined_measure S_measure_of S_repeated_measure S g_max) 13, m_measure_in, F_measure_in.kp, hb_measure_in⟩
  obtain ⟨fd_is_plain_in, F_is_plain_in⟩ := c.def_ 35 (d := d_is_plain_in) rfl
  have m_is_plain_in : mg "is_plain_in" = some (.ref (He.ga K "is_plain_in")) := He.glo_ok X G (c.fact 89 (f := .glo "is_plain_in") rfl)
  have hb_is_plain_in : Binds K fd_is_plain_in ["nodes"] [] := F_is_plain_in.bindsN (fun _ _ _ _ _ _ us hl => match us, hl with | [_], _ => rfl)
  have S_is_plain_in : Std P w K mg base 14 "is_plain_in" ["nodes"] (sp_is_plain_in K 13) := ⟨_, fd_is_plain_in, rec_ok (k0 := 1) (sp := fun d => sp_is_plain_in K d) m_is_plain_in F_is_plain_in.kp hb_is_plain_in (void_is_plain_in) (fun d S => ok_is_plain_in F_is_plain_in g_all S) 13, m_is_plain_in, F_is_plain_in.kp, hb_is_plain_in⟩
  obtain ⟨fd_length_in, F_length_in⟩ := c.def_ 36 (d := d_length_in) rfl
  have m_length_in : mg "length_in" = some (.ref (He.ga K "length_in")) := He.glo_ok X G (c.fact 90 (f := .glo "length_in") rfl)
  have hb_length_in : Binds K fd_length_in ["nodes"] [] := F_length_in.bindsN (fun _ _ _ _ _ _ us hl => match us, hl with | [_], _ => rfl)
  have S_length_in : Std P w K mg base 14 "length_in" ["nodes"] (sp_length_in K 13) := ⟨_, fd_length_in, rec_ok (k0 := 1) (sp := fun d => sp_length_in K d) m_length_in F_length_in.kp hb_length_in (void_length_in) (fun d S => ok_length_in F_length_in S) 13, m_length_in, F_length_in.kp, hb_length_in⟩
  obtain ⟨fd_open_in, F_open_in⟩ := c.def_ 37 (d := d_open_in) rfl
  have m_open_in : mg "open_in" = some (.ref (He.ga K "open_in")) := He.glo_ok X G (c.fact 91 (f := .glo "open_in") rfl)
  have hb_open_in : Binds K fd_open_in ["words"] [] := F_open_in.bindsN (fun _ _ _ _ _ _ us hl => match us, hl with | [_], _ => rfl)
  have S_open_in : Std P w K mg base 1 "open_in" ["words"] (sp_open_in K) := ⟨_, fd_open_in, ok_open_in F_open_in g_max g_int, m_open_in, F_open_in.kp, hb_open_in⟩
  have a_own_text : NoAttr K (He.ga K "Program") "own_text" := He.noat_ok (c.fact 92 (f := .noat "Program" "own_text") rfl)
  have a_own_words : NoAttr K (He.ga K "Program") "own_words" := He.noat_ok (c.fact 93 (f := .noat "Program" "own_words") rfl)
  have a_own_nodes : NoAttr K (He.ga K "Program") "own_nodes" := He.noat_ok (c.fact 94 (f := .noat "Program" "own_nodes") rfl)
  have a_own_need : NoAttr K (He.ga K "Program") "own_need" := He.noat_ok (c.fact 95 (f := .noat "Program" "own_need") rfl)
  have a_own_rise : NoAttr K (He.ga K "Program") "own_rise" := He.noat_ok (c.fact 96 (f := .noat "Program" "own_rise") rfl)
  have a_own_growth : NoAttr K (He.ga K "Program") "own_growth" := He.noat_ok (c.fact 97 (f := .noat "Program" "own_growth") rfl)
  have a_own_plain : NoAttr K (He.ga K "Program") "own_plain" := He.noat_ok (c.fact 98 (f := .noat "Program" "own_plain") rfl)
  have a_own_steps : NoAttr K (He.ga K "Program") "own_steps" := He.noat_ok (c.fact 99 (f := .noat "Program" "own_steps") rfl)
  have a_own_open : NoAttr K (He.ga K "Program") "own_open" := He.noat_ok (c.fact 100 (f := .noat "Program" "own_open") rfl)
  have pa : PrA K (He.ga K "Program") := ⟨kp.cl, a_own_text, a_own_words, a_own_nodes, a_own_need, a_own_rise, a_own_growth, a_own_plain, a_own_steps, a_own_open⟩
  have I_Program___init__ : StdI P w K mg base 16 (He.ga K "Program") (si_Program___init__ K (He.ga K "Program")) := ⟨_, fd_Program___init__, _, He.mkr_ok (c.fact 70 (f := .mkr "Program") rfl), ok_Program___init__ F_Program___init__ g_isinstance g_str S_words_of S_first_wrong S_nodes_in S_measure_in i_MOST_HIGH g_tuple S_is_plain_in S_length_in S_open_in pa, F_Program___init__.bindsN (ps := ["self", "text"]) (fun _ _ _ _ _ _ us hl => match us, hl with | [_, _], _ => rfl)⟩
  have nDC : PySem.W.kitOne K (.type "dict") (.ref (He.ga K "Effect")) = some false := errs_d e5
  have nPC : PySem.W.kitOne K (.ref (He.ga K "Program")) (.ref (He.ga K "Effect")) = some false := errs_p e5
  have S__law_right : StdG P w K mg base 18 "_law_right" ["kiln", "one"] (sp__law_right K (He.ga K "Effect")) := ⟨_, fd__law_right, ok__law_right F__law_right S__law_scoop S__law_told kc a_kept_taken a_kept_left gE P_Effect_taken P_Effect_left P_Effect_growth kp gP I_Program___init__ nDC nPC, m__law_right, F__law_right.kp, hb__law_right⟩
  obtain ⟨fd_Effect___init__, F_Effect___init__⟩ := c.def_ 38 (d := d_Effect___init__) rfl
  obtain ⟨fd_cut_pair, F_cut_pair⟩ := c.def_ 39 (d := d_cut_pair) rfl
  have m_cut_pair : mg "cut_pair" = some (.ref (He.ga K "cut_pair")) := He.glo_ok X G (c.fact 102 (f := .glo "cut_pair") rfl)
  have hb_cut_pair : Binds K fd_cut_pair ["taken", "left"] [] := F_cut_pair.bindsN (fun _ _ _ _ _ _ us hl => match us, hl with | [_, _], _ => rfl)
  have S_cut_pair : Std P w K mg base 1 "cut_pair" ["taken", "left"] (sp_cut_pair K) := ⟨_, fd_cut_pair, ok_cut_pair F_cut_pair g_len, m_cut_pair, F_cut_pair.kp, hb_cut_pair⟩
  have I_Effect___init__ : StdI P w K mg base 5 (He.ga K "Effect") (si_Effect___init__ K (He.ga K "Effect")) := ⟨_, fd_Effect___init__, _, He.mkr_ok (c.fact 101 (f := .mkr "Effect") rfl), ok_Effect___init__ F_Effect___init__ i_MOST_HIGH S_in_range g_isinstance g_tuple g_len g_all S_is_source S_cut_pair cl a_kept_taken a_kept_left, F_Effect___init__.bindsN (ps := ["self", "taken", "left"]) (fun _ _ _ _ _ _ us hl => match us, hl with | [_, _, _], _ => rfl)⟩
  exact ok_law F g_range g_max S__law_kiln g_min S__law_shaped g_len S__law_right S__law_told kc a_kept_taken a_kept_left gE I_Effect___init__
end Wx

/-! ### part H11 -/
set_option Elab.async false
set_option linter.all false
set_option maxRecDepth 100000
set_option maxHeartbeats 0
set_option autoImplicit false
namespace Wx
open PySem L2 PyProof.Rows
theorem ints_da {K : PySem.W.Frag} {S : Addr → Prop} {H : Hp} : ∀ ns : List Int, DaL K S H (ns.map V.int) (ns.map PyData.int)
  | [] => .nil
  | n :: ns => .cons (.int n) (ints_da ns)
theorem script_da {K : PySem.W.Frag} {H : Hp} {a : Addr} {ns : List Int} (h : SqL K H a (ns.map V.int)) : Da K (fun _ => False) H (.ref a) (.list (List.map PyData.int ns)) := by
  rcases h with h | h
  · exact .lst (fun z => z) h (ints_da ns)
  · exact .lstK (fun G => .inr h) (ints_da ns)
end Wx
open PySem PySem.W PySem.Calls PyProof.Rows
theorem PySem.Challenge.cw_stackworks_k27_errors_of_powers_holds : PySem.Challenge.rw_stackworks_k27_errors_of_powers.Holds := by
  w_on; o_law
  refine HandSHeadRun.head_any (r := OpenLaw.row PySem.Challenge.rw_stackworks_k27_errors_of_powers) (q := view Wx.RR.prog [92]) (H := Wx.hk) (ob := Wx.ob) (M := 20000) (loose := Wx.loose) (d := HandSHeadRun.topDef Wx.RR.prog 92) (kwd := []) Wx.ob_eq
    (by kernel_rfl) (fun s => by kernel_rfl) Wx.run (by kernel_rfl) (by kernel_rfl) (by kernel_rfl) (by rfl) (by first | assumption | decide +kernel) (by decide +kernel) ⟨rfl, rfl, rfl, rfl, rfl, by decide +kernel⟩ ?hw ?hc
  case hw => w_witness2
  case hc =>
    refine Wx.walk_go (l := PySem.Challenge.rw_stackworks_k27_errors_of_powers) (n := 63) (k := 19) (x := "script") rfl (by decide) (by kernel_rfl) ⟨rfl, by decide, by decide⟩ ?F
    intro w mg fa h Y G hmg0
    obtain ⟨K, KX, c, b⟩ := Y
    have hmg : mg ("law" : PySem.Str) = some (.ref fa) := by
      have e : (HandSHeadRun.topDef Wx.RR.prog 92).name = ("law" : PySem.Str) := by kernel_rfl
      rw [← e]
      exact hmg0
    obtain ⟨fd, hb, hF⟩ := Wx.facts (P := (PySem.Challenge.rw_stackworks_k27_errors_of_powers).prog) (w := w) KX G hmg c b
    exact ⟨K, fd, Wx.sp_law K, KX, hb, fun H a ns hl _ hS => ⟨a, ns, rfl, hl, Wx.script_da hS, fun _ => rfl⟩, hF⟩

